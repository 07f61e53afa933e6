import PyProof.Rows.All
import Wide.All
import OpenK.AllK
import Wide.FinOn
import Lean
import KE.KStateDown
import KE.KExcSuper
import HandS.ForMost
import HandS.WordsExc
import HandS.Exc
import HandS.Slots
import HandS.SlotsOwn
import HandS.ExcField
import HandS.Defaults
import HandS.Lambda
import HandS.EndTab
import HandS.CallRecv
import HandS.HeadWalk
import HandS.Head0
import HandS.Head1
import HandS.Head2
import HandS.HeadEnd
import HandS.HeadHook1
import HandS.HeadHook2
import HandS.HeadHook3
import HandS.HeadHook4
import HandS.Words
import HandS.Codes
import HandS.Star
import HandS.Comp
import HandS.WideBits
import HandS.TupAny
import HandS.TupMul
import HandS.IsInst
import HandS.WordsList
import HandS.WordsDict
import HandS.Small
import HandS.Style
import PyProof.RulesMatch
import HandS.Strs
import HandS.Conv
import HandS.TupLen
import HandS.More
import HandS.Dict
import PyProof.AutoSeq1
import HandS.DictComp
import HandS.Zip
import HandS.MakeKwOnly
import HandS.Iter
import HandS.TryMany
import HandS.ListItems
import HandS.DeepEq
import KE.KEqNest
import PySem.Challenge.RW_truebeat_k83_whole_formulas_in_fewest_re
set_option Elab.async false
set_option linter.all false
section
set_option maxRecDepth 100000
set_option maxHeartbeats 4000000
/-! an own exception over any built-in one, whose __init__ says super().__init__(x); self.x = x -/
namespace K83
open PySem PySem.W PySem.Calls PyProof.Rows PySem.Spec
abbrev supBody (fld : Str) (p0 p1 p2 p3 p4 p5 q1 q2 q3 q4 : Pos) : List Stmt :=
  [.Expr (.Call (.Attribute (.Call (.Name "super" p0) [] [] p1) "__init__" p2) [.Name fld p3] [] p4) p5, .Assign [.Attribute (.Name "self" q1) fld q2] (.Name fld q3) q4]
abbrev supArgs (fld : Str) (r1 r2 : Pos) : Arguments := { posonlyargs := [], args := [{ arg := "self", annotation := none, pos := r1 }, { arg := fld, annotation := none, pos := r2 }], vararg := none, kwonlyargs := [], kw_defaults := [], kwarg := none, defaults := [] }
abbrev supScope (fld : Str) : Scope := { kind := .function, names := [("self", .local), (fld, .local), ("__class__", .free), ("super", .globalImplicit)], isGenerator := false, isCoroutine := false, more := [] }
/-- the text of such an __init__ -/
structure SupT (fld : Str) (pr : Arguments) (bd : List Stmt) (sc : Scope) : Prop where
  body : ∃ p0 p1 p2 p3 p4 p5 q1 q2 q3 q4, bd = supBody fld p0 p1 p2 p3 p4 p5 q1 q2 q3 q4 ∧ ∀ (q : Str) (L f cc : Addr) (cd : Value), ∃ pl : Sem Bool,
    eval (.Call (.Attribute (.Call (.Name "super" p0) [] [] p1) "__init__" p2) [.Name fld p3] [] p4) (ksEnv q (supScope fld) L f cd cc) = (do
      let ov ← attributeBase (.Call (.Name "super" p0) [] [] p1) "__init__" (ksEnv q (supScope fld) L f cd cc) (eval (.Call (.Name "super" p0) [] [] p1) (ksEnv q (supScope fld) L f cd cc))
      standAt p2.atName
      let (f', first) ← holding [ov] (getMethod ov "__init__" pl)
      callWith p4 f' first (backTo p4 (starEach [.Name fld p3] (ksEnv q (supScope fld) L f cd cc))) [])
  args : ∃ r1 r2, pr = supArgs fld r1 r2
  scope : sc = supScope fld
  bind : ∀ (q : Str) (doc pm cdv ct : Value) (an : Option Addr) (cc : Addr) (x v : Value), bindArgs (ksFn "__init__" q pr bd sc .none .none doc pm an cdv ct cc) ⟨[x, v], []⟩ = pure [(("self" : Str), x), (fld, v)]
  lfld : (supScope fld).names.lookup fld = some .local
  lsup : (supScope fld).names.lookup ("super" : Str) = some .globalImplicit
  lcls : (supScope fld).names.lookup ("__class__" : Str) = some .free
  ne : fld ≠ "self"
  nd : (fld == ("__debug__" : Str)) = false
/-- what the written part says of the class at C, and of its __init__, at fI -/
structure SupX (prog : Program) (K : Frag) (q fld : Str) (B newId initId : String) (bmB : List Value) (pr : Arguments) (bd : List Stmt) (sc : Scope) (C fI : Addr) : Prop where
  over : excOver K C bmB = true
  ini : excInitIn K C bmB newId = true
  sa : findIn K (.ref C) "__setattr__" = some (some (.builtin "object.__setattr__"))
  noN : findIn K (.ref C) fld = some none
  iC : findIn K (.ref C) "__init__" = some (some (.ref fI))
  tC : isFn K (.ref fI) = true
  kC : keepIn K (.ref C) = true
  exC : subIn K (.ref C) (.type "BaseException") = some true
  exB : subIn K (.ref C) (.type B) = some true
  tyC : typeIn K (.ref C) = some (.type "type")
  hdC : hasDictIn K C = true
  sup : ks_superIn K C C "__init__" = some (some (.builtin initId))
  self : mroIn K C (.ref C) = some true
  any : nsIn K cStatics "thirdparty.any" = some none
  fn : ∃ (oc doc pm ct ccl cl : Value) (od an cdd cld : Option Addr) (osl ccs csl : Array (Option Value)) (cc cda : Addr) (vs : Array Value) (file : Str) (tf : Tok),
    K.lookup fI = some ⟨oc, od, .func (ksFn "__init__" q pr bd sc .none .none doc pm an (.ref cda) ct cc), osl⟩ ∧ codeIn K (.ref cda) q = true ∧
    K.lookup cda = some ⟨ccl, cdd, .fields vs, ccs⟩ ∧ vs[2]? = some (.str file tf) ∧ ((prog.main.file : Str) == file) = true ∧ K.lookup cc = some ⟨cl, cld, .cell (some (.ref C)), csl⟩
  top : (prog.main.scope.names.lookup ("super" : Str)).isSome = false
/-- what __init__ leaves of a fresh exception at x -/
structure InitEnd (h h' : Heap) (x C dx t1 : Addr) (fld : Str) (v : Value) : Prop where
  keep : ∀ b o, b ≠ x → h.get? b = some o → h'.get? b = some o
  obj : h'.get? x = some { cls := .ref C, dict := some dx, data := .fields #[.ref t1, .none, .none, .none, .bool false, .none] }
  dbig : h.objs.size ≤ dx
  dne : dx ≠ x
  ns : h'.Ns1 dx (fun y => if y = fld then some v else none)
section
variable {prog : Program} {w : World} {A : Around} {E : Value → Shared → Prop} {K : Frag} {C : Addr} {h : Heap} {g : Array GenState} {d : Drawn} {t : Nat} {os : OsState} {B newId initId : String} {bmB : List Value}
open PySem.Builtin PySem.Builtin.ObjectAttr in
/-- self.name = v on an exception without a dict -/
theorem gx_osa {R : Result → Shared → Prop} {name : Str} {tk : Tok} {v : Value} {x : Addr} {fv : Array Value} {cd : ClassData} (SF : StoreFacts B bmB "object.__setattr__" "object")
    (X : K.In h) (hx : h.get? x = some { cls := .ref C, data := .fields fv }) (hov : excOver K C bmB = true) (hcd : clsIn K C = some cd) (hh : cd.hasDict = true) (ha : findIn K (.ref C) name = some none)
    (hq : ∀ h' tk' dx, (∀ b o, b ≠ x → h.get? b = some o → h'.get? b = some o) → h.objs.size ≤ dx → dx ≠ x → h'.get? x = some { cls := .ref C, dict := some dx, data := .fields fv } →
      h'.Ns1 dx (fun y => if y = name then some v else none) → R (.ok (.ret .none)) ⟨h', g, d, tk', os⟩) :
    codeAny (model prog w) A (.call (.builtin "object.__setattr__") ⟨[.ref x, .str name tk, v], []⟩) R ⟨h, g, d, t, os⟩ := by
  have inst : InstAt h x { cls := .ref C, data := .fields fv } C none := ⟨hx, rfl, rfl, trivial⟩
  have apart := Nat.ne_of_lt (Heap.lt_size hx)
  refine osa_openX (s := ⟨h, g, d, t, os⟩) SF X inst hov (show takerIn K C name = some none by unfold takerIn; rw [ha]; rfl) fun b => ?_
  show wpAny _ _ (storeInOwnDict (.ref x) (.ref C) (.str name tk) name v b) _ _ _
  have known : Looks (model prog w) h (classData C) cd := looks_clsIn X hcd
  obtain ⟨c1, c2, c3, c4, c5, has, c7, c8, c9, c10, c11⟩ := cd
  obtain rfl : has = true := hh
  unfold storeInOwnDict
  unfold ownDictForStores
  repeat (first
    | with_reducible refine HandSPX.store_in_new ?_ ?_
    | with_reducible refine wpAny_loadPart_at hx ?_
    | with_reducible refine known.at ?_
    | wp_step)
  · -- the new dict is empty
    exact ⟨_, #[], _, ((Heap.get?_update_ne _ _ _ _ apart.symm).trans (Heap.get?_push_at rfl rfl)), rfl, (fun e he => absurd he (by simp)), fun _ => rfl⟩
  · -- the dict is told of, all else stands
    intro h2 tk2 ns2 but
    have there : (h.push { cls := .type "dict", data := .dict #[] }).get? x = some { cls := .ref C, data := .fields fv } := Heap.get?_push_of_some _ hx
    have kept : ∀ b o, b ≠ x → h.get? b = some o → h2.get? b = some o := fun b o nb e => by
      rw [but.2 b (Nat.ne_of_lt (Heap.lt_size e)), Heap.get?_update_ne _ _ _ _ nb]
      exact Heap.get?_push_of_some _ e
    exact hq h2 tk2 h.objs.size kept (Nat.le_refl _) apart.symm ((but.2 x apart).trans (Heap.get?_update_self _ there rfl)) ns2
/-- the bound __init__ of the built-in class is called -/
theorem gx_call {u e t0 : Addr} {rest : List Value} {Q : Value → Shared → Prop} (X : K.In h) (FB : ExcBaseFacts B newId initId bmB) (q : excInitIn K C bmB newId = true)
    (he : h.get? e = some (excObj C t0 none .none)) (hu : h.get? u = some (kxs_mw initId e)) (hz : rest.length ≤ sizeLine)
    (hq : ∀ h' t1, (∀ b o, b ≠ e → h.get? b = some o → h'.get? b = some o) → h'.get? e = some (excObj C t1 none .none) → Q .none ⟨h', g, d, t, os⟩) :
    wpAny (model prog w) A (call (.ref u) rest) Q E ⟨h, g, d, t, os⟩ := by
  obtain ⟨_, _, _, _, _, _, _, _, _, _, _, _, _, _, _, _, cls, _⟩ := excInit_of X q
  have isBound : (Value.type "method-wrapper" == Value.type "method" || Value.type "method-wrapper" == Value.type "builtin_function_or_method" || Value.type "method-wrapper" == Value.type "method-wrapper") = true := by decide
  refine wpAny_call (codeAny_of_tree (show wpAny _ A.in1 (callAny (.ref u) ⟨rest, []⟩) _ _ _ from ?_))
  simp only [callAny]
  refine wpAny_bind (wpAny_load hu ?_)
  simp only [kxs_mw, isBound, if_true]
  refine KFB.if_so (by decide) (wpAny_bind (check_bound_init FB.toExcCallFacts cls he rfl (wpAny_bind (wpAny_pure (wpAny_pure ?_)))))
  exact ⟨plainId_quiet FB.init.plain _, codeAny_builtin FB.initEntry (exc_init_tree (cls := .ref C) (t0 := t0) (dv := none) (c2 := .none) (c3 := .none) (b4 := .bool false) he hz fun h' k e' t' => hq h' h.objs.size k e')⟩
end
section
variable {prog : Program} {w : World} {A : Around} {E : Value → Shared → Prop} {K : Frag} {C fI : Addr} {mg : Str → Option Value} {s : Shared} {B newId initId : String} {bmB : List Value} {q fld : Str} {pr : Arguments} {bd : List Stmt} {sc : Scope}
theorem ldC {M : Model} {s : Shared} {sc : Scope} {qn : Str} {cd : Value} {cc L a : Addr} {m : Str → Option Value} {x : Str} {pos : Pos} {v : Value} {Q : Value → Shared → Prop} {A : Around} {E : Value → Shared → Prop} (hn : s.heap.Ns L m) (hv : m x = some v) (h : Q v s)
    (hk : sc.kind = .function) (hl : sc.names.lookup x = some .local) (hd : (x == ("__debug__" : Str)) = false) :
    wpAny M A (eval (.Name x pos) (ksEnv qn sc L a cd cc)) Q E s := wpAny_Name (wpAny_loadName_local (env := ksEnv qn sc L a cd cc) hk hl hn hv h) hd
theorem own_init {R : Result → Shared → Prop} (T : SupX prog K q fld B newId initId bmB pr bd sc C fI) (TT : SupT fld pr bd sc) (SF : StoreFacts B bmB "object.__setattr__" "object") (FB : ExcBaseFacts B newId initId bmB) (KF : KxsFacts B initId) (M0 : L2.Mod K mg s.heap) (nsu : mg "super" = none)
    {x t0 : Addr} {v : Value} (hx : s.heap.get? x = some (excObj C t0 none .none)) (hnx : K.lookup x = none) (hroom : A.depth < recursionLimit)
    (hq : ∀ h' tk dx t1, InitEnd s.heap h' x C dx t1 fld v → R (.ok (.ret .none)) { s with heap := h', toks := tk }) :
    codeAny (model prog w) A (.call (.ref fI) ⟨[.ref x, v], []⟩) R s := by
  obtain ⟨oc, doc, pm, ct, ccl, cl, od, an, cdd, cld, osl, ccs, csl, cc, cda, vs, file, tf, ho, hcd, hcda, hvs, hfile, hcell⟩ := T.fn
  obtain ⟨p0, p1, p2, p3, p4, p5, q1, q2, q3, q4, hbd, hev⟩ := TT.body
  obtain ⟨r1, r2, hpr⟩ := TT.args
  have hsc := TT.scope
  have hbind := TT.bind
  have lfld := TT.lfld
  have lsup := TT.lsup
  have lcls := TT.lcls
  subst hbd hpr hsc
  have X := M0.kin
  obtain ⟨mb, hbl, hbb⟩ := M0.blt
  obtain ⟨cd, hcd0⟩ : ∃ cd, clsIn K C = some cd := by
    have z := T.over
    unfold excOver at z
    cases e : clsIn K C with
    | none => rw [e] at z; cases z
    | some cd => exact ⟨cd, rfl⟩
  obtain ⟨oD, hD1, hD2⟩ : ∃ oD, s.heap.get? C = some oD ∧ oD.data = .cls cd := by
    have hD := hcd0
    unfold clsIn at hD
    split at hD
    · rename_i c d cd' sl ho
      cases hD
      exact ⟨_, X _ _ ho, rfl⟩
    · cases hD
  have hdict : cd.hasDict = true := by
    have z := T.hdC
    unfold hasDictIn at z
    rw [hcd0] at z
    exact z
  have hxC : x ≠ C := by
    rintro rfl
    rw [hx] at hD1
    cases hD1
    cases hD2
  refine ks_codeAny_call_defAt (fd := ksFn "__init__" q (supArgs fld r1 r2) (supBody fld p0 p1 p2 p3 p4 p5 q1 q2 q3 q4) (supScope fld) .none .none doc pm an (.ref cda) ct cc) (body := supBody fld p0 p1 p2 p3 p4 p5 q1 q2 q3 q4) (binds := [(("self" : Str), .ref x), (fld, v)])
    hroom (X _ _ ho) rfl M0.nolimit (codeRec_of X hcd) rfl (BindsTo.of_eq (hbind ..)) (fun y hy => ?_) (fun y hy => ?_) (fun h₁ hns k₁ => ?_) rfl rfl rfl
  · have hy : y ∈ (supScope fld).names := hy
    simp only [List.mem_cons, List.not_mem_nil, or_false] at hy
    rcases hy with rfl | rfl | rfl | rfl <;> exact fun z => NameKind.noConfusion z
  · simp only [List.mem_cons, List.not_mem_nil, or_false] at hy
    rcases hy with rfl | rfl
    · rfl
    · exact lfld
  obtain ⟨hp, g, d, tk, os⟩ := s
  show _root_.PySem.wpAt (model prog w) (A.deeper (ksEnv q (supScope fld) hp.objs.size fI (.ref cda) cc)) (.func (supBody fld p0 p1 p2 p3 p4 p5 q1 q2 q3 q4) (ksEnv q (supScope fld) hp.objs.size fI (.ref cda) cc)) (PySem.execs (supBody fld p0 p1 p2 p3 p4 p5 q1 q2 q3 q4) (ksEnv q (supScope fld) hp.objs.size fI (.ref cda) cc)) _ _ _
  have hx₁ := k₁ _ _ hx
  have X₁ : K.In h₁ := X.keeps k₁
  have vS : (fun y => ([(("self" : Str), Value.ref x), (fld, v)] : List (Str × Value)).reverse.lookup y) ("self" : Str) = some (.ref x) := by
    show ([(fld, v), (("self" : Str), Value.ref x)] : List (Str × Value)).lookup ("self" : Str) = _
    have e : (("self" : Str) == fld) = false := by simpa using Ne.symm TT.ne
    simp [List.lookup, e]
  have vF : (fun y => ([("self", Value.ref x), (fld, v)] : List (Str × Value)).reverse.lookup y) fld = some v := by
    show ([(fld, v), ("self", Value.ref x)] : List (Str × Value)).lookup fld = _
    simp [List.lookup]
  have I : InstAt h₁ x (excObj C t0 none .none) C none := ⟨hx₁, rfl, rfl, trivial⟩
  obtain ⟨pl, hev⟩ := hev q hp.objs.size fI cc (.ref cda)
  refine ks_wpAt_execs_cons (ks_wpAt_Expr_any (ks_wpAt_MethodCall (pl := pl) ?_ hev))
  refine ks_wpAt_super_base (env := ksEnv q (supScope fld) hp.objs.size fI (.ref cda) cc) lsup lcls (by decide) rfl (X₁ _ _ ho) rfl rfl rfl (X₁ _ _ hcda) rfl hvs hfile T.top ?_
  refine ks_loadName_global rfl lsup (loadGlobal_builtin (env := ksEnv q (supScope fld) hp.objs.size fI (.ref cda) cc) (M0.glob.keeps k₁) nsu (hbl.keeps k₁) ((hbb "super" (by decide)).trans (show bootBuiltins "super" = some (.type "super") by first | boot_by_name | rfl | kernel_rfl)) ⟨rfl, ?_⟩)
  refine wpAny_loadName_free (env := ksEnv q (supScope fld) hp.objs.size fI (.ref cda) cc) rfl lcls rfl ⟨_, X₁ _ _ hcell, rfl⟩ ?_
  refine wpAny_loadName_local (env := ksEnv q (supScope fld) hp.objs.size fI (.ref cda) cc) rfl rfl hns vS ?_
  refine ks_wpAny_isType_cls (k₁ _ _ hD1) hD2 ⟨rfl, ?_⟩
  refine ks_wpAny_call_super (k₁ _ _ hD1) hD2 hx₁ rfl (fun c e => by cases e) (looks_mroIn X₁ T.self) (fun h₂ eso k₂ => ?_)
  have hm := T.sup
  unfold ks_superIn at hm
  rw [hcd0] at hm
  have X₂ : K.In h₂ := X₁.keeps k₂
  have I2 : InstAt h₂ x (excObj C t0 none .none) C none := ⟨k₂ _ _ hx₁, rfl, rfl, trivial⟩
  have hI : Looks (model prog w) h₂ (isInstance (.ref x) (.type B)) true := I2.type.andThen (looks_subIn X₂ T.exB)
  refine kxs_getMethod KF eso (looks_opaque X₂ T.any) (l₀ := cd.mro) (fun A Q E s k q => wpAny_bind ((looks_clsIn X₂ hcd0) A _ E s k (wpAny_pure q))) rfl X₂ hm hI hxC (by decide) ?_
  have k₃ : ∀ b o, h₂.get? b = some o → (h₂.push (kxs_mw initId x)).get? b = some o := fun b o e => Heap.get?_push_of_some _ e
  have eu : (h₂.push (kxs_mw initId x)).get? h₂.objs.size = some (kxs_mw initId x) := Heap.get?_push_at rfl rfl
  have k13 : ∀ b o, h₁.get? b = some o → (h₂.push (kxs_mw initId x)).get? b = some o := fun b o e => k₃ _ _ (k₂ _ _ e)
  refine kxs_callWith (i := initId) (x := x) rfl (evalArgs_plain ?_)
  refine spliced_cons (ldC (hns.keeps k13) vF ?_ rfl lfld TT.nd) 
  refine spliced_nil ⟨eu, ?_⟩
  refine gx_call (X₂.keeps k₃) FB T.ini (k13 _ _ hx₁) eu (show 1 ≤ sizeLine by rw [sizeLine_eq]; decide) fun h₄ t1 k₄ hx₄ => ?_
  have hxL : hp.objs.size ≠ x := Nat.ne_of_gt (Heap.lt_size hx)
  have hns₄ : h₄.Ns hp.objs.size (fun y => ([("self", Value.ref x), (fld, v)] : List (Str × Value)).reverse.lookup y) := by
    obtain ⟨oL, es, ep, hL, r⟩ := hns.keeps k13
    exact ⟨oL, es, ep, k₄ _ _ hxL hL, r⟩
  have X₄ : K.In h₄ := fun a o e => k₄ a o (fun z => by rw [z, hnx] at e; cases e) (X₂.keeps k₃ a o e)
  refine ks_wpAt_execs_cons (wpAt_of_wpAny (plainObj_wpAny_Assign_Attribute ?_))
  refine ldC hns₄ vF (ldC hns₄ vS ?_ rfl rfl (by decide)) rfl lfld TT.nd
  refine set_plain X₄ (ox := excObj C t1 none .none) (od := none) ⟨hx₄, rfl, rfl, trivial⟩ T.sa ?_
  refine gx_osa SF X₄ hx₄ T.over hcd0 hdict T.noN (fun h₅ tk₅ dx k₅ dn dne hx₅ hn₅ => ?_)
  refine wpAt_of_wpAny (wpAny_execs_nil (hq h₅ tk₅ dx t1 ⟨fun b o hb e => k₅ b o hb (k₄ b o hb (k13 _ _ (k₁ _ _ e))), hx₅, ?_, dne, hn₅⟩))
  exact Nat.le_of_lt (Nat.lt_of_lt_of_le hns₄.lt dn)
/-- a made exception -/
structure OwnMade (h h' : Heap) (e C d : Addr) (fld : Str) (v : Value) : Prop where
  keep : ∀ b o, h.get? b = some o → h'.get? b = some o
  new : h.objs.size ≤ e
  obj : ∃ oe vs, h'.get? e = some oe ∧ oe.cls = .ref C ∧ oe.dict = some d ∧ oe.data = .fields vs ∧ vs[1]? = some .none
  dbig : h.objs.size ≤ d
  dne : d ≠ e
  ns : h'.Ns1 d (fun y => if y = fld then some v else none)
theorem one_size (v : Value) : [v].length ≤ sizeLine := by
  rw [sizeLine_eq]
  exact (by decide : 1 ≤ 16777216)
theorem own_made {R : Result → Shared → Prop} (T : SupX prog K q fld B newId initId bmB pr bd sc C fI) (TT : SupT fld pr bd sc) (SF : StoreFacts B bmB "object.__setattr__" "object") (FB : ExcBaseFacts B newId initId bmB) (KF : KxsFacts B initId) (M0 : L2.Mod K mg s.heap) (nsu : mg "super" = none)
    {v : Value} (hroom : A.depth + 1 < recursionLimit)
    (hq : ∀ h' tk e d, OwnMade s.heap h' e C d fld v → R (.ok (.ret (.ref e))) { s with heap := h', toks := tk }) :
    codeAny (model prog w) A (.call (.ref C) ⟨[v], []⟩) R s := by
  obtain ⟨nm, N', qn, bs, bm, hdct, sn, sub, ab, col, dd, k0, k1, k2, k3, k5, hC, hT⟩ := excInit_of M0.kin T.ini
  obtain ⟨oI, hoI, hcI⟩ : ∃ oI, s.heap.get? fI = some oI ∧ oI.cls = .type "function" := by
    obtain ⟨o, ho, hc⟩ := Option.map_eq_some_iff.mp (show (K.lookup fI).map (·.cls) = some (.type "function") from beq_iff_eq.mp T.tC)
    exact ⟨o, M0.kin _ _ ho, hc⟩
  obtain ⟨hp, g, d, tk, os⟩ := s
  have k : ∀ b o, hp.get? b = some o → ((hp.push (kdv_tup [v])).push (PX.excO C hp.objs.size)).get? b = some o := fun b o e => Heap.get?_push_of_some _ (Heap.get?_push_of_some _ e)
  have hget : ((hp.push (kdv_tup [v])).push (PX.excO C hp.objs.size)).get? (hp.objs.size + 1) = some (PX.excO C hp.objs.size) := by heap_get
  have X := M0.kin
  have hnx : K.lookup (hp.objs.size + 1) = none := by
    cases e : K.lookup (hp.objs.size + 1) with
    | none => rfl
    | some o =>
      have z : hp.get? (hp.objs.size + 1) = some o := X _ _ e
      exact absurd (Nat.lt_of_succ_lt (Heap.lt_size z)) (Nat.lt_irrefl _)
  obtain ⟨mb, hbl, hbb⟩ := M0.blt
  have M1 : L2.Mod K mg ((hp.push (kdv_tup [v])).push (PX.excO C hp.objs.size)) := ⟨X.keeps k, M0.glob.keeps k, ⟨mb, hbl.keeps k, hbb⟩, M0.nolimit.keeps k⟩
  refine PX.call_own FB hT hC (looks_findIn X T.iC) (fun self => exc_bind hoI hcI self) (one_size v) ?_
  refine own_init (s := ⟨(hp.push (kdv_tup [v])).push (PX.excO C hp.objs.size), g, d, tk, os⟩) T TT SF FB KF M1 nsu hget hnx ?_ fun h' tk' dx t1 ⟨k', hx, dn, dne, hns⟩ => ?_
  · show A.depth + 1 < recursionLimit
    exact hroom
  · have old : ∀ b o, hp.get? b = some o → h'.get? b = some o := fun b o e => k' b o (Nat.ne_of_lt (Nat.lt_succ_of_lt (Heap.lt_size e))) (k b o e)
    have z : hp.objs.size + 1 + 1 ≤ dx := by
      first
        | (simpa only [Heap.size_push] using dn)
        | exact dn
        | (have q := dn; rw [Heap.size_push, Heap.size_push] at q; exact q)
    exact ⟨rfl, hq h' tk' (hp.objs.size + 1) dx ⟨old, Nat.le_succ _, ⟨_, _, hx, rfl, rfl, rfl, rfl⟩, Nat.le_trans (Nat.le_trans (Nat.le_succ _) (Nat.le_succ _)) z, dne, hns⟩⟩
end
section
open PySem PySem.Spec PyProof.Rows L2
theorem relO_sup {fld : Str} {v : V} {v' : Value} (r : RelV v v') (f : Str) : RelO (List.lookup f [(fld, v)]) (if f = fld then some v' else none) := by
  by_cases hw : f = fld
  · subst hw
    rw [if_pos rfl]
    have q : List.lookup f [(f, v)] = some v := by simp [List.lookup]
    rw [q]
    exact r
  · rw [if_neg hw]
    have qw : (f == fld) = false := by simpa using hw
    have q2 : List.lookup f [(fld, v)] = none := by simp [List.lookup, qw]
    rw [q2]
    trivial
/-- C(e) -/
def tMkSup (C : Addr) (fld : Str) (ta : TA) : L2.St → Hp → XK → Prop := fun σ H Q => ta σ H fun vs H1 => ∃ v, vs = [v] ∧ ∀ d, H1 d = none → Q (.ref C) (some d) (upd H1 d (.xd [(fld, v)]))
variable {X : Cx} {C fI : Addr} {B newId initId : String} {bmB : List Value} {nmC q fld : Str} {pr : Arguments} {bd : List Stmt} {sc : Scope}
theorem pmk_sup {a : Expr} {ta : TA} {p pos : Pos} {k : Nat} (T : SupX X.prog X.K q fld B newId initId bmB pr bd sc C fI) (TT : SupT fld pr bd sc) (SF : StoreFacts B bmB "object.__setattr__" "object") (FB : ExcBaseFacts B newId initId bmB) (KF : PySem.W.KxsFacts B initId)
    (gC : X.mg nmC = some (.ref C)) (nsu : X.mg "super" = none) (hr : Room k X.A) (ha : PA X [a] ta) (hg : Gl X nmC) (hdb : (nmC == ("__debug__" : Str)) = false := by decide)
    (he : starEach (a :: []) X.env = (false, eval a X.env) :: starEach [] X.env := by rfl) (hpl : (backTo pos (starEach [] X.env)).any (·.1) = false := by rfl) :
    PMk X (.Call (.Name nmC p) [a] [] pos) (tMkSup C fld ta) := by
  intro pins s σ H Q I h
  refine wpAny_Call_Name_kw (ld_glob I hg gC ?_ hdb)
  refine PySem.W.callWith_K (h₀ := X.base) I.ok.mod.kin T.kC (thn (ha.run pos pins s σ H _ I h) fun us s1 hh => ?_) he hpl
  obtain ⟨vs, H1, I1, r1, v, ev, q1⟩ := hh
  subst ev
  refine ⟨I1.kIn, ?_⟩
  cases r1 with
  | cons rv rn =>
    rename_i v' us'
    cases rn
    show wpAny _ _ (call (.ref C) [v']) _ _ _
    obtain ⟨mb, hbl, hbb⟩ := I1.ok.mod.blt
    have M1 : L2.Mod X.K X.mg s1.heap := ⟨I1.kIn, I1.ok.mod.glob.keeps I1.bk, ⟨mb, hbl.keeps I1.bk, hbb⟩, I1.nolimit⟩
    obtain ⟨hp, g, dr, tk, os⟩ := s1
    refine wpAny_call (own_made T TT SF FB KF M1 nsu (by have := hr.dp; omega) fun h' tk' e d M => ?_)
    show MkP X pins σ Q (.ref e) ⟨h', g, dr, tk', os⟩
    obtain ⟨oe, fv, hoe, hc, hd, hdat, h1⟩ := M.obj
    have hns := M.ns
    obtain ⟨G', g1, g2⟩ := restrict h' fun b => decide (b ≠ e)
    have gk : ∀ b, b ≠ e → G'.get? b = h'.get? b := fun b hb => g1 b (decide_eq_true hb)
    have ge : G'.get? e = none := g2 e (by simp)
    have old : ∀ b o, hp.get? b = some o → G'.get? b = some o := fun b o q => (gk b (Nat.ne_of_lt (Nat.lt_of_lt_of_le (Heap.lt_size q) M.new))).trans (M.keep b o q)
    have ob : ObjOk X.prog X.w (upd H1 d (.xd [(fld, v)])) G' d (.xd [(fld, v)]) :=
      ⟨_, hns.at (fun o q => (gk d M.dne).trans q), fun f => relO_sup rv f⟩
    have J : Inv X pins σ (upd H1 d (.xd [(fld, v)])) ⟨G', g, dr, tk', os⟩ := I1.laid (t' := tk') old M.dbig ob
    refine ⟨e, oe, fv, ⟨G', g, dr, tk', os⟩, _, .ref C, some d, rfl, J, fun b o q => ?_, ge, hoe, ⟨hc, hd⟩, hdat, h1, ?_, rfl, I1.bare, raises_own T.exC T.tyC, q1 d (I1.hok.fresh M.dbig)⟩
    · by_cases hb : b = e
      · have q' : G'.get? b = some o := q
        rw [hb, ge] at q'; cases q'
      · exact (gk b hb).symm.trans q
    · rw [upd_ne (Ne.symm M.dne)]
      exact I1.hok.fresh M.new
end
end K83
end
section
set_option maxRecDepth 100000
set_option maxHeartbeats 4000000
namespace K83
open PySem PySem.Spec PyProof.Rows L2

/-! ## the head's facts, read off a range of addresses -/
/-- a getter: where it stands in the written part, what it is -/
structure Gt where
  at_ : PySem.W.Frag → Addr
  name : Str
  qual : Str
  params : Arguments
  body : List Stmt
  scope : Scope
def Gt.val (d : Gt) : He.FnW := some (d.name, d.qual, d.params, .stmts d.body, d.scope, mainGlobals, [], builtinsNs)
def gtAt (K : PySem.W.Frag) (a : Addr) : He.FnW :=
  match K.lookup a with
  | some ⟨_, _, .func z, _⟩ => some (z.name, z.qualname, z.params, z.body, z.scope, z.globals, z.closure, z.builtins)
  | _ => none
def isNo : Value → Bool
  | .none => true
  | _ => false
theorem isNo_eq {v : Value} (h : isNo v = true) : v = .none := by
  cases v <;> first | rfl | cases h
def Gt.fine (K : PySem.W.Frag) (d : Gt) : Bool :=
  PySem.W.keepIn K (.ref (d.at_ K)) && (match K.lookup (d.at_ K) with
    | some ⟨_, _, .func z, _⟩ => PySem.W.codeIn K z.code d.qual && isNo z.defaults
    | _ => false)
theorem Gt.fun {K : PySem.W.Frag} {d : Gt} (e : gtAt K (d.at_ K) = d.val) (c : d.fine K = true) :
    ∃ fd, FunD K d.name d.qual d.params d.body d.scope [] [] (d.at_ K) fd := by
  obtain ⟨kp, c2⟩ := Bool.and_eq_true_iff.mp c
  unfold gtAt at e
  cases q : K.lookup (d.at_ K) with
  | none => rw [q] at e; exact absurd e (by intro z; cases z)
  | some o =>
    rw [q] at e c2
    obtain ⟨oc, od, dt, osl⟩ := o
    cases dt with
    | func z =>
      obtain ⟨m1, m2, m3, m4, m5, m6, m7, m8, m9, m10, m11, m12, m13, m14, m15⟩ := z
      obtain ⟨u1, u2⟩ := Bool.and_eq_true_iff.mp c2
      have u3 := isNo_eq u2
      simp only at u3
      subst u3
      simp only [Gt.val, Option.some.injEq, Prod.mk.injEq] at e
      obtain ⟨a1, a2, a3, a4, a5, a6, a7, a8⟩ := e
      subst a1 a2 a3 a4 a5 a6 a7 a8
      exact ⟨_, ⟨oc, od, .none, m9, m10, m11, m12, m13, m14, osl, rfl, q, u1, .inl ⟨rfl, rfl⟩, .inl rfl⟩, kp⟩
    | _ => cases e

/-- an own exception class with super().__init__: its name, field, base, text of __init__ -/
structure Xt where
  nm : Str
  fld : Str
  qual : Str
  B : String
  newId : String
  initId : String
  bmB : List Value
  params : Arguments
  body : List Stmt
  scope : Scope
def Xt.C (d : Xt) (K : PySem.W.Frag) : Addr := He.ga K d.nm
def Xt.f (d : Xt) (K : PySem.W.Frag) : Addr := He.ma K (He.ga K d.nm) "__init__"
def xtAt (K : PySem.W.Frag) (a : Addr) : He.FnW :=
  match K.lookup a with
  | some ⟨_, _, .func z, _⟩ => some (z.name, z.qualname, z.params, z.body, z.scope, z.globals, [], z.builtins)
  | _ => none
def Xt.val (d : Xt) : He.FnW := some ("__init__", d.qual, d.params, .stmts d.body, d.scope, mainGlobals, [], builtinsNs)
def cellB (K : PySem.W.Frag) (C : Addr) : List (Str × Addr) → Bool
  | [(n, cc)] => decide (n = "__class__") && (match K.lookup cc with
    | some ⟨_, _, .cell (some (.ref c)), _⟩ => decide (c = C)
    | _ => false)
  | _ => false
theorem cellB_ok {K : PySem.W.Frag} {C : Addr} {l : List (Str × Addr)} (h : cellB K C l = true) : ∃ cc cl cld csl, l = [(("__class__" : Str), cc)] ∧ K.lookup cc = some ⟨cl, cld, .cell (some (.ref C)), csl⟩ := by
  match l with
  | [] => cases h
  | _ :: _ :: _ => cases h
  | [(n, cc)] =>
    obtain ⟨h1, h2⟩ := Bool.and_eq_true_iff.mp (show (decide (n = "__class__") && (match K.lookup cc with
      | some ⟨_, _, .cell (some (.ref c)), _⟩ => decide (c = C)
      | _ => false)) = true from h)
    have e := of_decide_eq_true h1
    subst e
    cases q : K.lookup cc with
    | none => rw [q] at h2; cases h2
    | some o =>
      rw [q] at h2
      obtain ⟨oc, od, dt, osl⟩ := o
      cases dt with
      | cell v =>
        cases v with
        | none => cases h2
        | some v =>
          cases v with
          | ref c =>
            have e := of_decide_eq_true (show decide (c = C) = true from h2)
            subst e
            exact ⟨cc, _, _, _, rfl, q⟩
          | _ => cases h2
      | _ => cases h2
def strB (file : Str) : Option Value → Bool
  | some (.str fl _) => file == fl
  | _ => false
def fileB (K : PySem.W.Frag) (file : Str) : Value → Bool
  | .ref cda => (match K.lookup cda with
    | some ⟨_, _, .fields vs, _⟩ => strB file vs[2]?
    | _ => false)
  | _ => false
theorem fileB_ok {K : PySem.W.Frag} {file : Str} {v : Value} (h : fileB K file v = true) : ∃ cda ccl cdd vs ccs fl tf, v = .ref cda ∧ K.lookup cda = some ⟨ccl, cdd, .fields vs, ccs⟩ ∧ vs[2]? = some (.str fl tf) ∧ (file == fl) = true := by
  cases v with
  | ref cda =>
    replace h : (match K.lookup cda with
      | some ⟨_, _, .fields vs, _⟩ => strB file vs[2]?
      | _ => false) = true := h
    cases q : K.lookup cda with
    | none => rw [q] at h; cases h
    | some o =>
      rw [q] at h
      obtain ⟨oc, od, dt, osl⟩ := o
      cases dt with
      | fields vs =>
        have h2 : strB file vs[2]? = true := h
        cases q2 : vs[2]? with
        | none => rw [q2] at h2; cases h2
        | some u =>
          rw [q2] at h2
          cases u with
          | str fl tf => exact ⟨cda, _, _, _, _, fl, tf, rfl, q, q2, h2⟩
          | _ => cases h2
      | _ => cases h
  | _ => cases h
def Xt.fine (K : PySem.W.Frag) (file : Str) (d : Xt) : Bool :=
  (match K.lookup (d.f K) with
    | some ⟨_, _, .func z, _⟩ => isNo z.defaults && (isNo z.kwdefaults && (PySem.W.codeIn K z.code d.qual && (cellB K (d.C K) z.closure && fileB K file z.code)))
    | _ => false) && (PySem.W.excOver K (d.C K) d.bmB && (PySem.W.excInitIn K (d.C K) d.bmB d.newId && (decide (PySem.W.findIn K (.ref (d.C K)) "__setattr__" = some (some (.builtin "object.__setattr__"))) &&
    (decide (PySem.W.findIn K (.ref (d.C K)) d.fld = some none) && (decide (PySem.W.findIn K (.ref (d.C K)) "__init__" = some (some (.ref (d.f K)))) && (PySem.W.isFn K (.ref (d.f K)) && (PySem.W.keepIn K (.ref (d.C K)) &&
    (decide (PySem.W.subIn K (.ref (d.C K)) (.type "BaseException") = some true) && (decide (PySem.W.subIn K (.ref (d.C K)) (.type d.B) = some true) && (decide (PySem.W.typeIn K (.ref (d.C K)) = some (.type "type")) && (PySem.W.hasDictIn K (d.C K) &&
    (decide (PySem.W.ks_superIn K (d.C K) (d.C K) "__init__" = some (some (.builtin d.initId))) && (decide (PySem.W.mroIn K (d.C K) (.ref (d.C K)) = some true) && (decide (PySem.W.nsIn K PySem.cStatics "thirdparty.any" = some none) &&
    (decide (PySem.W.findIn K (.ref (d.C K)) "__getattribute__" = some (some (.builtin "BaseException.__getattribute__"))) && decide (PySem.W.findIn K (.ref (d.C K)) "__getattr__" = some none))))))))))))))))
theorem Xt.sup {K : PySem.W.Frag} {file : Str} {d : Xt} (e : xtAt K (d.f K) = d.val) (c : d.fine K file = true) (prog : Program) (hf : prog.main.file = file) (ht : (prog.main.scope.names.lookup ("super" : Str)).isSome = false) :
    SupX prog K d.qual d.fld d.B d.newId d.initId d.bmB d.params d.body d.scope (d.C K) (d.f K) ∧ XfC K (d.C K) := by
  unfold Xt.fine at c
  simp only [Bool.and_eq_true, decide_eq_true_eq] at c
  obtain ⟨c0, c1, c2, c3, c4, c5, c6, c7, c8, c9, c10, c11, c12, c13, c14, c15, c16⟩ := c
  refine ⟨⟨c1, c2, c3, c4, c5, c6, c7, c8, c9, c10, c11, c12, c13, c14, ?_, ht⟩, ⟨c15, c16, c8, c11⟩⟩
  unfold xtAt at e
  cases q : K.lookup (d.f K) with
  | none => rw [q] at e; cases e
  | some o =>
    rw [q] at e c0
    obtain ⟨oc, od, dt, osl⟩ := o
    cases dt with
    | func z =>
      obtain ⟨m1, m2, m3, m4, m5, m6, m7, m8, m9, m10, m11, m12, m13, m14, m15⟩ := z
      obtain ⟨u1, c0⟩ := Bool.and_eq_true_iff.mp c0
      obtain ⟨u2, c0⟩ := Bool.and_eq_true_iff.mp c0
      obtain ⟨u3, c0⟩ := Bool.and_eq_true_iff.mp c0
      obtain ⟨u4, u5⟩ := Bool.and_eq_true_iff.mp c0
      have w1 := isNo_eq u1
      have w2 := isNo_eq u2
      simp only at w1 w2
      subst w1 w2
      simp only [Xt.val, Option.some.injEq, Prod.mk.injEq] at e
      obtain ⟨a1, a2, a3, a4, a5, a6, _, a8⟩ := e
      obtain ⟨cc, cl, cld, csl, hc1, hc2⟩ := cellB_ok u4
      obtain ⟨cda, ccl, cdd, vs, ccs, fl, tf, hd1, hd2, hd3, hd4⟩ := fileB_ok u5
      simp only at hc1 hd1
      subst a1 a2 a3 a4 a5 a6 a8 hc1 hd1
      exact ⟨_, _, _, _, _, _, _, _, _, _, _, _, _, cc, cda, vs, fl, tf, rfl, u3, hd2, hd3, by rw [hf]; exact hd4, hc2⟩
    | _ => cases e
abbrev Al := (He.AlX × List He.FnW) × List He.FnW
/-- what the hook looks at -/
def look (as : List Addr) (fa : List He.Fa) (fn : List He.DefD) (ts : List He.Tab) (tf : List He.Defn) (gs : List Gt) (xs : List Xt) (file : Str) (ex : PySem.W.Frag → Bool) (g : Addr → Option Obj) : Al :=
  (((He.obsT fa fn ts (He.frT g as), ((ex (He.frT g as) && xs.all fun d => d.fine (He.frT g as) file) && gs.all fun d => d.fine (He.frT g as)) && He.tabsB g tf (He.frT g as)), gs.map fun d => gtAt (He.frT g as) (d.at_ (He.frT g as))), xs.map fun d => xtAt (He.frT g as) (d.f (He.frT g as)))
def want (fn : List He.DefD) (ts : List He.Tab) (gs : List Gt) (xs : List Xt) (w : World) : Al := ((He.valX fn ts w, gs.map Gt.val), xs.map Xt.val)
/-- what is told of the written part K at the heap h -/
structure Tells (fa : List He.Fa) (fn : List He.DefD) (ts : List He.Tab) (tf : List He.Defn) (gs : List Gt) (xs : List Xt) (file : Str) (ex : PySem.W.Frag → Bool) (w : World) (h : Heap) (K : PySem.W.Frag) : Prop where
  x : He.SaysX fa fn ts tf ex w h K
  g : ∀ d ∈ gs, ∃ fd, FunD K d.name d.qual d.params d.body d.scope [] [] (d.at_ K) fd
  e : ∀ d ∈ xs, ∀ prog : Program, prog.main.file = file → (prog.main.scope.names.lookup ("super" : Str)).isSome = false → SupX prog K d.qual d.fld d.B d.newId d.initId d.bmB d.params d.body d.scope (d.C K) (d.f K) ∧ XfC K (d.C K)
theorem tells_of {as : List Addr} {fa : List He.Fa} {fn : List He.DefD} {ts : List He.Tab} {tf : List He.Defn} {gs : List Gt} {xs : List Xt} {file : Str} {ex : PySem.W.Frag → Bool} {w : World} {h : Heap}
    (e : look as fa fn ts tf gs xs file ex h.get? = want fn ts gs xs w) : Tells fa fn ts tf gs xs file ex w h (He.frT h.get? as) := by
  obtain ⟨e, ez⟩ := Prod.mk.inj e
  obtain ⟨e1, e2⟩ := Prod.mk.inj e
  obtain ⟨e3, e4⟩ := Prod.mk.inj e1
  obtain ⟨e5, e6⟩ := Bool.and_eq_true_iff.mp e4
  obtain ⟨e7, e8⟩ := Bool.and_eq_true_iff.mp e5
  obtain ⟨e7, e9⟩ := Bool.and_eq_true_iff.mp e7
  have tb : ∀ p ∈ tf, PySem.W.codeHdIn (He.frT h.get? as) (He.cT (He.frT h.get? as) p).1 (He.cT (He.frT h.get? as) p).2 = true ∧
      ∃ o, h.get? (He.cT (He.frT h.get? as) p).2 = some o ∧ He.emptyTab o = true := by
    intro p hp
    have z := List.all_eq_true.mp e6 p hp
    obtain ⟨z1, z2⟩ := Bool.and_eq_true_iff.mp z
    refine ⟨z1, ?_⟩
    cases q : h.get? (He.cT (He.frT h.get? as) p).2 with
    | none => rw [q] at z2; cases z2
    | some o => rw [q] at z2; exact ⟨o, rfl, z2⟩
  refine ⟨⟨e3, e7, fun p hp => (tb p hp).1, fun p hp => ?_, fun p hp => ?_⟩, fun d hd => Gt.fun ?_ (List.all_eq_true.mp e8 d hd), fun d hd prog hf ht => Xt.sup ?_ (List.all_eq_true.mp e9 d hd) prog hf ht⟩
  · obtain ⟨_, o, q, z⟩ := tb p hp
    exact He.frT_none q z
  · obtain ⟨_, o, q, z⟩ := tb p hp
    rw [q, He.emptyTab_eq z]
  · obtain ⟨i, hi, ei⟩ := List.mem_iff_getElem.mp hd
    have m : (gs.map fun d => gtAt (He.frT h.get? as) (d.at_ (He.frT h.get? as)))[i]? = (gs.map Gt.val)[i]? := by rw [e2]
    rw [List.getElem?_map, List.getElem?_map, List.getElem?_eq_getElem hi, ei] at m
    exact Option.some.inj m
  · obtain ⟨i, hi, ei⟩ := List.mem_iff_getElem.mp hd
    have m : (xs.map fun d => xtAt (He.frT h.get? as) (d.f (He.frT h.get? as)))[i]? = (xs.map Xt.val)[i]? := by rw [ez]
    rw [List.getElem?_map, List.getElem?_map, List.getElem?_eq_getElem hi, ei] at m
    exact Option.some.inj m
def hook (as : List Addr) (fa : List He.Fa) (fn : List He.DefD) (ts : List He.Tab) (tf : List He.Defn) (gs : List Gt) (xs : List Xt) (file : Str) (ex : PySem.W.Frag → Bool) : PySem.W.Hook where
  α := Al
  obs := fun s => look as fa fn ts tf gs xs file ex s.heap.get?
  val := fun w => want fn ts gs xs w
  says := fun w h => ∃ K : PySem.W.Frag, K.In h ∧ Tells fa fn ts tf gs xs file ex w h K
  of := fun _ _ e => ⟨_, He.frT_in, tells_of e⟩
  keeps := fun _ _ _ ⟨K, a, b⟩ k => ⟨K, PySem.W.Frag.In.keeps a k, ⟨⟨b.x.t, b.x.more, b.x.hd, b.x.out, fun p hp => k _ _ (b.x.empty p hp)⟩, b.g, b.e⟩⟩
theorem look_eq {as : List Addr} {fa : List He.Fa} {fn : List He.DefD} {ts : List He.Tab} {tf : List He.Defn} {gs : List Gt} {xs : List Xt} {file : Str} {ex : PySem.W.Frag → Bool} {g : Addr → Option Obj} {s : Shared}
    (h : ∀ a, g a = s.heap.get? a) : look as fa fn ts tf gs xs file ex g = (hook as fa fn ts tf gs xs file ex).obs s := by
  have z : g = s.heap.get? := funext h
  subst z
  rfl
/-- two looks at one run are one look -/
theorem both {α β γ : Type} {r : Option α} {f : α → β} {g : α → γ} {b : β} {c : γ} (h : r.map f = some b) (k : r.map g = some c) : r.map (fun s => (f s, g s)) = some (b, c) := by
  cases r with
  | none => cases h
  | some s => simp only [Option.map_some, Option.some.injEq] at h k ⊢; rw [h, k]
end K83
end
section
set_option maxRecDepth 100000
set_option maxHeartbeats 0
noncomputable section
namespace K83
open PySem PySem.Spec PyProof.Rows L2
abbrev rw := PySem.Challenge.rw_truebeat_k83_whole_formulas_in_fewest_re
abbrev R : PySem.W.OpenRow := PySem.W.OpenLaw.row rw
def top (i : Nat) : Stmt := PySem.Challenge.pw_truebeat_k83_whole_formulas_in_fewest_re.main.body.getD i (.Pass ⟨0, 0, 0, 0⟩)
/-! ### the facts -/
def outsAt (K : PySem.W.Frag) : Addr :=
  match K.lookup (He.fAd K ("Plain", some "__init__")) with
  | some ⟨_, _, .func z, _⟩ => (match z.kwdefaults with
    | .ref d => (match PySem.W.nsIn K d "outputs" with
      | some (some (.ref a)) => a
      | _ => 0)
    | _ => 0)
  | _ => 0
def gtOf (f : Str) (K : PySem.W.Frag) : Addr :=
  match PySem.W.recIn K (He.ma K (He.ga K "Plain") f) "property" with
  | some (.ref a :: _) => a
  | _ => 0
def tupAt (K : PySem.W.Frag) (a : Addr) (vs : List He.Dv) : Bool :=
  match K.lookup a with
  | some ⟨.type c, _, .seq its _, _⟩ => c == "tuple" && (decide (its.size ≤ 100) && He.relAll (vs.map (He.Dv.v K)) its.toList)
  | _ => false
def tupNB (K : PySem.W.Frag) (x : Str) : Bool :=
  match K.lookup (He.ga K x) with
  | some ⟨.type c, none, _, _⟩ => c == "tuple"
  | _ => false
def isAt (a : Option (Option Value)) (b : Value) : Bool := decide (a = some (some b))
def sclsB (K : PySem.W.Frag) (c : Str) : Bool :=
  PySem.W.plainGet K (He.ga K c) Str.empty && (PySem.W.isClsIn K (He.ga K c) && (PySem.W.plainOver K (He.ga K c) && (isAt (PySem.W.findIn K (.ref (He.ga K c)) "__setattr__") (.builtin "object.__setattr__") &&
  (isAt (PySem.W.findIn K (.ref (He.ga K c)) "__class__") (.builtin "object.__class__") && (isAt (PySem.W.specialIn K (.builtin "object.__class__") "__get__") (.builtin "getset_descriptor.__get__") &&
  (decide (PySem.W.takesIn K (.builtin "object.__class__") = some true) && decide (PySem.W.mroIn K (He.ga K c) (.type "object") = some true)))))))
def slotB (K : PySem.W.Frag) (c f : Str) (i : Nat) : Bool :=
  isAt (PySem.W.findIn K (.ref (He.ga K c)) f) (.ref (He.ma K (He.ga K c) f)) && (isAt (PySem.W.specialIn K (.ref (He.ma K (He.ga K c) f)) "__get__") (.builtin "member_descriptor.__get__") &&
  (decide (PySem.W.takesIn K (.ref (He.ma K (He.ga K c) f)) = some true) && (decide (PySem.W.typeIn K (.ref (He.ma K (He.ga K c) f)) = some (.type "member_descriptor")) && decide (PySem.W.slotIn K (He.ma K (He.ga K c) f) (He.ga K c) = some i))))
def propB (K : PySem.W.Frag) (f : Str) : Bool :=
  isAt (PySem.W.findIn K (.ref (He.ga K "Plain")) f) (.ref (He.ma K (He.ga K "Plain") f)) && (isAt (PySem.W.specialIn K (.ref (He.ma K (He.ga K "Plain") f)) "__get__") (.builtin "property.__get__") &&
  (decide (PySem.W.takesIn K (.ref (He.ma K (He.ga K "Plain") f)) = some true) && (match PySem.W.recIn K (He.ma K (He.ga K "Plain") f) "property" with
    | some (.ref _ :: _) => true
    | _ => false)))
def nms : List PySem.Str := (["_wall", "BeatError", "InvalidShape", "InvalidState", "InvalidProgram", "InvalidMemory", "InvalidChoice", "InvalidOperation", "InvalidNumber", "TooMany", "Refused", "SIXTY"] : List PySem.Str) ++ (["is_integer", "is_short", "is_within", "MOST_WORDS", "NO_WORD", "LEAST_WIDTH", "MOST_WIDTH", "REGISTER_NUMBERS", "MOST_PLACES", "OP_PLUS", "OP_SET", "OP_LOAD"] : List PySem.Str) ++ (["OP_STORE", "OP_SAME", "OP_UNDER", "OP_JUMP", "OP_SPECIAL", "END_STEP", "PUT_STEP", "BACK_STEP", "TIMES_STEP", "PART_STEP", "REST_STEP", "is_step_word"] : List PySem.Str) ++ (["is_program", "is_memory_of", "are_words", "Shape", "require_shape", "require_program", "require_memory", "fields_in", "signed_field", "program_word", "reckoned", "parted_words"] : List PySem.Str) ++ (["require_step_word", "given_by", "MOST_NODES", "NUMBER", "CELL", "TWO", "LEAF_SIZE", "TWO_SIZE", "TOLD_LEAST", "TOLD_MOST", "MOST_CELL", "PLAIN_OPS"] : List PySem.Str) ++ (["LONG_KINDS", "is_leaf", "are_sides", "is_leaf_any", "is_formula", "require_formula", "height_in", "nodes_of", "words_in", "formula_height", "formula_steps", "BELL_PLACE"] : List PySem.Str) ++ (["MOST_STEPS", "NEAR_BITS", "TOLD_BITS", "END", "WORD_FAULT", "DIVIDE_FAULT", "given_fields", "stored_fields", "ended_fields", "special_fields", "following", "branch_place"] : List PySem.Str) ++ (["step_fields", "can_ring", "rung_fields", "checked_fields", "is_end", "are_bells", "KnownFields", "Plain", "fields_of_state", "made_plain", "behind_step", "require_steps"] : List PySem.Str) ++ (["_law_dice", "_law_roll", "_law_one_of", "_law_two_to", "_law_signed", "_law_fields", "_law_word_at", "_law_memory_drawn", "_law_plain_first", "_law_reckoned", "_law_special", "_law_plain_step"] : List PySem.Str) ++ (["_law_formula_drawn", "_law_valued", "_law_value", "_law_told", "_law_right"] : List PySem.Str)
def fa : List He.Fa := ([.glo "is_integer", .glo "is_within", .glo "is_step_word", .glo "is_program", .glo "is_memory_of", .glo "are_words", .glo "require_shape", .glo "require_program", .glo "require_memory", .glo "fields_in"] : List He.Fa) ++ ([.glo "signed_field", .glo "program_word", .glo "reckoned", .glo "parted_words", .glo "require_step_word", .glo "given_by", .glo "is_leaf", .glo "are_sides", .glo "is_leaf_any", .glo "is_formula"] : List He.Fa) ++ ([.glo "require_formula", .glo "height_in", .glo "nodes_of", .glo "words_in", .glo "formula_height", .glo "formula_steps", .glo "given_fields", .glo "ended_fields", .glo "special_fields", .glo "following"] : List He.Fa) ++ ([.glo "step_fields", .glo "checked_fields", .glo "is_end", .glo "are_bells", .glo "fields_of_state", .glo "made_plain", .glo "behind_step", .glo "require_steps", .glo "_law_dice", .glo "_law_roll"] : List He.Fa) ++ ([.glo "_law_one_of", .glo "_law_two_to", .glo "_law_signed", .glo "_law_fields", .glo "_law_word_at", .glo "_law_memory_drawn", .glo "_law_plain_first", .glo "_law_reckoned", .glo "_law_special", .glo "_law_plain_step"] : List He.Fa) ++ ([.glo "_law_formula_drawn", .glo "_law_valued", .glo "_law_value", .glo "_law_told", .glo "_law_right", .glo "law", .glo "Shape", .glo "KnownFields", .glo "Plain", .glo "Refused"] : List He.Fa) ++ ([.glo "TooMany", .glo "REGISTER_NUMBERS", .glo "PLAIN_OPS", .glo "END", .glo "WORD_FAULT", .glo "DIVIDE_FAULT", .glo "LONG_KINDS", .free "isinstance", .free "int", .free "bool"] : List He.Fa) ++ ([.free "tuple", .free "list", .free "dict", .free "len", .free "all", .free "range", .free "sorted", .free "max", .free "min", .free "abs"] : List He.Fa) ++ ([.free "str", .free "super", .free "zip", .int "MOST_WORDS" (256), .int "NO_WORD" (65535), .int "LEAST_WIDTH" (4), .int "MOST_WIDTH" (16), .int "MOST_PLACES" (1000), .int "OP_PLUS" (8), .int "OP_SET" (9)] : List He.Fa) ++ ([.int "OP_LOAD" (10), .int "OP_STORE" (11), .int "OP_SAME" (12), .int "OP_UNDER" (13), .int "OP_JUMP" (14), .int "OP_SPECIAL" (15), .int "END_STEP" (0), .int "PUT_STEP" (1), .int "BACK_STEP" (2), .int "TIMES_STEP" (4)] : List He.Fa) ++ ([.int "PART_STEP" (5), .int "REST_STEP" (6), .int "MOST_NODES" (60), .int "LEAF_SIZE" (2), .int "TWO_SIZE" (4), .int "TOLD_LEAST" (-256), .int "TOLD_MOST" (255), .int "MOST_CELL" (31), .int "MOST_STEPS" (3000), .int "NEAR_BITS" (6)] : List He.Fa) ++ ([.int "TOLD_BITS" (9), .str "NUMBER" "number", .str "CELL" "cell", .str "TWO" "two", .mkr "Shape", .mkr "KnownFields", .mkr "Plain", .meth "Plain" "run", .exm "Refused" "Refused" true, .exm "TooMany" "Refused" false] : List He.Fa) ++ ([.exm "TooMany" "TooMany" true] : List He.Fa)
def fn : List He.DefD := ([⟨("is_integer", none), "is_integer", "is_integer", defArgs (top 14), defBody (top 14), defScope (top 14), [], []⟩, ⟨("is_within", none), "is_within", "is_within", defArgs (top 16), defBody (top 16), defScope (top 16), [], []⟩, ⟨("is_step_word", none), "is_step_word", "is_step_word", defArgs (top 38), defBody (top 38), defScope (top 38), [], []⟩, ⟨("is_program", none), "is_program", "is_program", defArgs (top 39), defBody (top 39), defScope (top 39), [], []⟩, ⟨("is_memory_of", none), "is_memory_of", "is_memory_of", defArgs (top 40), defBody (top 40), defScope (top 40), [], []⟩] : List He.DefD) ++ ([⟨("are_words", none), "are_words", "are_words", defArgs (top 41), defBody (top 41), defScope (top 41), [], []⟩, ⟨("require_shape", none), "require_shape", "require_shape", defArgs (top 43), defBody (top 43), defScope (top 43), [], []⟩, ⟨("require_program", none), "require_program", "require_program", defArgs (top 44), defBody (top 44), defScope (top 44), [], []⟩, ⟨("require_memory", none), "require_memory", "require_memory", defArgs (top 45), defBody (top 45), defScope (top 45), [], []⟩, ⟨("fields_in", none), "fields_in", "fields_in", defArgs (top 46), defBody (top 46), defScope (top 46), [], []⟩] : List He.DefD) ++ ([⟨("signed_field", none), "signed_field", "signed_field", defArgs (top 47), defBody (top 47), defScope (top 47), [], []⟩, ⟨("program_word", none), "program_word", "program_word", defArgs (top 48), defBody (top 48), defScope (top 48), [], []⟩, ⟨("reckoned", none), "reckoned", "reckoned", defArgs (top 49), defBody (top 49), defScope (top 49), [], []⟩, ⟨("parted_words", none), "parted_words", "parted_words", defArgs (top 50), defBody (top 50), defScope (top 50), [], []⟩, ⟨("require_step_word", none), "require_step_word", "require_step_word", defArgs (top 51), defBody (top 51), defScope (top 51), [], []⟩] : List He.DefD) ++ ([⟨("given_by", none), "given_by", "given_by", defArgs (top 52), defBody (top 52), defScope (top 52), [], []⟩, ⟨("is_leaf", none), "is_leaf", "is_leaf", defArgs (top 65), defBody (top 65), defScope (top 65), [], []⟩, ⟨("are_sides", none), "are_sides", "are_sides", defArgs (top 66), defBody (top 66), defScope (top 66), [], []⟩, ⟨("is_leaf_any", none), "is_leaf_any", "is_leaf_any", defArgs (top 67), defBody (top 67), defScope (top 67), [], []⟩, ⟨("is_formula", none), "is_formula", "is_formula", defArgs (top 68), defBody (top 68), defScope (top 68), [], []⟩] : List He.DefD) ++ ([⟨("require_formula", none), "require_formula", "require_formula", defArgs (top 69), defBody (top 69), defScope (top 69), [], []⟩, ⟨("height_in", none), "height_in", "height_in", defArgs (top 70), defBody (top 70), defScope (top 70), [], []⟩, ⟨("nodes_of", none), "nodes_of", "nodes_of", defArgs (top 71), defBody (top 71), defScope (top 71), [], []⟩, ⟨("words_in", none), "words_in", "words_in", defArgs (top 72), defBody (top 72), defScope (top 72), [], []⟩, ⟨("formula_height", none), "formula_height", "formula_height", defArgs (top 73), defBody (top 73), defScope (top 73), [], []⟩] : List He.DefD) ++ ([⟨("formula_steps", none), "formula_steps", "formula_steps", defArgs (top 74), defBody (top 74), defScope (top 74), [], []⟩, ⟨("given_fields", none), "given_fields", "given_fields", defArgs (top 83), defBody (top 83), defScope (top 83), [], []⟩, ⟨("ended_fields", none), "ended_fields", "ended_fields", defArgs (top 85), defBody (top 85), defScope (top 85), [], []⟩, ⟨("special_fields", none), "special_fields", "special_fields", defArgs (top 86), defBody (top 86), defScope (top 86), [], []⟩, ⟨("following", none), "following", "following", defArgs (top 87), defBody (top 87), defScope (top 87), [], []⟩] : List He.DefD) ++ ([⟨("step_fields", none), "step_fields", "step_fields", defArgs (top 89), defBody (top 89), defScope (top 89), [], []⟩, ⟨("checked_fields", none), "checked_fields", "checked_fields", defArgs (top 92), defBody (top 92), defScope (top 92), [], []⟩, ⟨("is_end", none), "is_end", "is_end", defArgs (top 93), defBody (top 93), defScope (top 93), [], []⟩, ⟨("are_bells", none), "are_bells", "are_bells", defArgs (top 94), defBody (top 94), defScope (top 94), [], []⟩, ⟨("fields_of_state", none), "fields_of_state", "fields_of_state", defArgs (top 97), defBody (top 97), defScope (top 97), [], []⟩] : List He.DefD) ++ ([⟨("made_plain", none), "made_plain", "made_plain", defArgs (top 98), defBody (top 98), defScope (top 98), [], []⟩, ⟨("behind_step", none), "behind_step", "behind_step", defArgs (top 99), defBody (top 99), defScope (top 99), [], []⟩, ⟨("require_steps", none), "require_steps", "require_steps", defArgs (top 100), defBody (top 100), defScope (top 100), [], []⟩, ⟨("_law_dice", none), "_law_dice", "_law_dice", defArgs (top 102), defBody (top 102), defScope (top 102), [], []⟩, ⟨("_law_roll", none), "_law_roll", "_law_roll", defArgs (top 103), defBody (top 103), defScope (top 103), [], []⟩] : List He.DefD) ++ ([⟨("_law_one_of", none), "_law_one_of", "_law_one_of", defArgs (top 104), defBody (top 104), defScope (top 104), [], []⟩, ⟨("_law_two_to", none), "_law_two_to", "_law_two_to", defArgs (top 105), defBody (top 105), defScope (top 105), [], []⟩, ⟨("_law_signed", none), "_law_signed", "_law_signed", defArgs (top 106), defBody (top 106), defScope (top 106), [], []⟩, ⟨("_law_fields", none), "_law_fields", "_law_fields", defArgs (top 107), defBody (top 107), defScope (top 107), [], []⟩, ⟨("_law_word_at", none), "_law_word_at", "_law_word_at", defArgs (top 108), defBody (top 108), defScope (top 108), [], []⟩] : List He.DefD) ++ ([⟨("_law_memory_drawn", none), "_law_memory_drawn", "_law_memory_drawn", defArgs (top 109), defBody (top 109), defScope (top 109), [], []⟩, ⟨("_law_plain_first", none), "_law_plain_first", "_law_plain_first", defArgs (top 110), defBody (top 110), defScope (top 110), [], []⟩, ⟨("_law_reckoned", none), "_law_reckoned", "_law_reckoned", defArgs (top 111), defBody (top 111), defScope (top 111), [], []⟩, ⟨("_law_special", none), "_law_special", "_law_special", defArgs (top 112), defBody (top 112), defScope (top 112), [], []⟩, ⟨("_law_plain_step", none), "_law_plain_step", "_law_plain_step", defArgs (top 113), defBody (top 113), defScope (top 113), [], []⟩] : List He.DefD) ++ ([⟨("_law_formula_drawn", none), "_law_formula_drawn", "_law_formula_drawn", defArgs (top 114), defBody (top 114), defScope (top 114), [], []⟩, ⟨("_law_valued", none), "_law_valued", "_law_valued", defArgs (top 115), defBody (top 115), defScope (top 115), [], []⟩, ⟨("_law_value", none), "_law_value", "_law_value", defArgs (top 116), defBody (top 116), defScope (top 116), [], []⟩, ⟨("_law_told", none), "_law_told", "_law_told", defArgs (top 117), defBody (top 117), defScope (top 117), [], []⟩, ⟨("_law_right", none), "_law_right", "_law_right", defArgs (top 118), defBody (top 118), defScope (top 118), [], []⟩] : List He.DefD) ++ ([⟨("law", none), "law", "law", defArgs (top 119), defBody (top 119), defScope (top 119), [], []⟩, ⟨("Shape", some "__init__"), "__init__", "Shape.__init__", defArgs (inClass (top 42) 1), defBody (inClass (top 42) 1), defScope (inClass (top 42) 1), [], []⟩, ⟨("KnownFields", some "__init__"), "__init__", "KnownFields.__init__", defArgs (inClass (top 95) 1), defBody (inClass (top 95) 1), defScope (inClass (top 95) 1), [], []⟩, ⟨("Plain", some "__init__"), "__init__", "Plain.__init__", defArgs (inClass (top 96) 1), defBody (inClass (top 96) 1), defScope (inClass (top 96) 1), [], [("pc", .int 0), ("registers", .non), ("memory", .non), ("saved", .int 0), ("allowed", .bl false), ("ended", .non), ("outputs", .adr outsAt)]⟩, ⟨("Plain", some "run"), "run", "Plain.run", defArgs (inClass (top 96) 13), defBody (inClass (top 96) 13), defScope (inClass (top 96) 13), [.adr (He.dflAt ("Plain", some "run") 0)], []⟩] : List He.DefD)
def gs : List Gt := ([⟨gtOf "registers", "registers", "Plain.registers", defArgs (inClass (top 96) 5), defBody (inClass (top 96) 5), defScope (inClass (top 96) 5)⟩, ⟨gtOf "memory", "memory", "Plain.memory", defArgs (inClass (top 96) 6), defBody (inClass (top 96) 6), defScope (inClass (top 96) 6)⟩, ⟨gtOf "ended", "ended", "Plain.ended", defArgs (inClass (top 96) 9), defBody (inClass (top 96) 9), defScope (inClass (top 96) 9)⟩, ⟨gtOf "outputs", "outputs", "Plain.outputs", defArgs (inClass (top 96) 10), defBody (inClass (top 96) 10), defScope (inClass (top 96) 10)⟩, ⟨gtOf "allowed", "allowed", "Plain.allowed", defArgs (inClass (top 96) 8), defBody (inClass (top 96) 8), defScope (inClass (top 96) 8)⟩] : List Gt)
def xs : List Xt := ([⟨"Refused", "reason", "Refused.__init__", "ArithmeticError", "ArithmeticError.__new__", "ArithmeticError.__init__", [.type "ArithmeticError", .type "Exception", .type "BaseException", .type "object"], defArgs (inClass (top 11) 0), defBody (inClass (top 11) 0), defScope (inClass (top 11) 0)⟩, ⟨"TooMany", "limit", "TooMany.__init__", "OverflowError", "OverflowError.__new__", "OverflowError.__init__", [.type "OverflowError", .type "ArithmeticError", .type "Exception", .type "BaseException", .type "object"], defArgs (inClass (top 10) 0), defBody (inClass (top 10) 0), defScope (inClass (top 10) 0)⟩] : List Xt)
abbrev fileK : Str := PySem.Challenge.pw_truebeat_k83_whole_formulas_in_fewest_re.main.file
def ts : List He.Tab := [((fun K => He.ga K "LONG_KINDS"), ["times", "part", "rest"])]
def tf : List He.Defn := [("law", none), ("_law_right", none)]
def ex (K : PySem.W.Frag) : Bool :=
  He.tupB K "REGISTER_NUMBERS" [.int 2, .int 4, .int 8] && (
  He.tupB K "PLAIN_OPS" [.str "add", .str "sub", .str "and", .str "or", .str "xor", .str "less", .str "left", .str "right"] && (
  He.tupB K "END" [.str "end"] && (
  He.tupB K "WORD_FAULT" [.str "fault", .str "word"] && (
  He.tupB K "DIVIDE_FAULT" [.str "fault", .str "divide"] && (
  He.valsB K (He.ga K "LONG_KINDS") [("times", .int 4), ("part", .int 5), ("rest", .int 6)] && (
  sclsB K "Shape" && (
  slotB K "Shape" "own_registers" 0 && (
  slotB K "Shape" "own_width" 1 && (
  sclsB K "KnownFields" && (
  slotB K "KnownFields" "own_told" 0 && (
  sclsB K "Plain" && (
  slotB K "Plain" "own_allowed" 0 && (
  slotB K "Plain" "own_ended" 1 && (
  slotB K "Plain" "own_memory" 2 && (
  slotB K "Plain" "own_outputs" 3 && (
  slotB K "Plain" "own_pc" 4 && (
  slotB K "Plain" "own_program" 5 && (
  slotB K "Plain" "own_registers" 6 && (
  slotB K "Plain" "own_saved" 7 && (
  slotB K "Plain" "own_shape" 8 && (
  propB K "registers" && (
  propB K "memory" && (
  propB K "ended" && (
  propB K "outputs" && (
  propB K "allowed" && (
  decide (PySem.W.kitOne K (.ref (He.ga K "Shape")) (.ref (He.ga K "Shape")) = some true) && (
  decide (PySem.W.kitOne K (.ref (He.ga K "Shape")) (.ref (He.ga K "KnownFields")) = some false) && (
  decide (PySem.W.kitOne K (.ref (He.ga K "KnownFields")) (.ref (He.ga K "KnownFields")) = some true) && (
  ((["add", "sub", "and", "or", "xor", "less", "left", "right"] : List PySem.Str).all fun x => decide (PySem.W.nsIn K (He.ga K "LONG_KINDS") x = some none)) && (
  tupNB K "PLAIN_OPS" && (
  tupAt K (He.dflAt ("Plain", some "run") 0 K) [] && (
  tupAt K (outsAt K) [] && (
  decide ((He.cT K ("law", none)).2 ≠ (He.cT K ("_law_right", none)).2))))))))))))))))))))))))))))))))))
def as : List Addr := List.range 1000
/-! ### the facts, one by one -/
structure Txt (w : World) (K : PySem.W.Frag) (mg : Str → Option Value) (base : Heap) : Prop where
  kin : K.In base
  ns : base.Ns mainGlobals mg
  t : He.SaysT fa fn ts w K
  more : ex K = true
  g : ∀ d ∈ gs, ∃ fd, FunD K d.name d.qual d.params d.body d.scope [] [] (d.at_ K) fd
  e : ∀ d ∈ xs, ∀ prog : Program, prog.main.file = fileK → (prog.main.scope.names.lookup ("super" : Str)).isSome = false → SupX prog K d.qual d.fld d.B d.newId d.initId d.bmB d.params d.body d.scope (d.C K) (d.f K) ∧ XfC K (d.C K)
/-- what is asked of the program around -/
structure PrO (P : Program) : Prop where
  file : P.main.file = fileK
  sup : (P.main.scope.names.lookup ("super" : Str)).isSome = false
section
variable {w : World} {K : PySem.W.Frag} {mg : Str → Option Value} {base : Heap}
theorem Txt.m_is_integer (T : Txt w K mg base) : mg "is_integer" = some (.ref (He.ga K "is_integer")) := He.glo_ok T.kin T.ns (T.t.d.fact 0 (f := .glo "is_integer"))
theorem Txt.m_is_within (T : Txt w K mg base) : mg "is_within" = some (.ref (He.ga K "is_within")) := He.glo_ok T.kin T.ns (T.t.d.fact 1 (f := .glo "is_within"))
theorem Txt.m_is_step_word (T : Txt w K mg base) : mg "is_step_word" = some (.ref (He.ga K "is_step_word")) := He.glo_ok T.kin T.ns (T.t.d.fact 2 (f := .glo "is_step_word"))
theorem Txt.m_is_program (T : Txt w K mg base) : mg "is_program" = some (.ref (He.ga K "is_program")) := He.glo_ok T.kin T.ns (T.t.d.fact 3 (f := .glo "is_program"))
theorem Txt.m_is_memory_of (T : Txt w K mg base) : mg "is_memory_of" = some (.ref (He.ga K "is_memory_of")) := He.glo_ok T.kin T.ns (T.t.d.fact 4 (f := .glo "is_memory_of"))
theorem Txt.m_are_words (T : Txt w K mg base) : mg "are_words" = some (.ref (He.ga K "are_words")) := He.glo_ok T.kin T.ns (T.t.d.fact 5 (f := .glo "are_words"))
theorem Txt.m_require_shape (T : Txt w K mg base) : mg "require_shape" = some (.ref (He.ga K "require_shape")) := He.glo_ok T.kin T.ns (T.t.d.fact 6 (f := .glo "require_shape"))
theorem Txt.m_require_program (T : Txt w K mg base) : mg "require_program" = some (.ref (He.ga K "require_program")) := He.glo_ok T.kin T.ns (T.t.d.fact 7 (f := .glo "require_program"))
theorem Txt.m_require_memory (T : Txt w K mg base) : mg "require_memory" = some (.ref (He.ga K "require_memory")) := He.glo_ok T.kin T.ns (T.t.d.fact 8 (f := .glo "require_memory"))
theorem Txt.m_fields_in (T : Txt w K mg base) : mg "fields_in" = some (.ref (He.ga K "fields_in")) := He.glo_ok T.kin T.ns (T.t.d.fact 9 (f := .glo "fields_in"))
theorem Txt.m_signed_field (T : Txt w K mg base) : mg "signed_field" = some (.ref (He.ga K "signed_field")) := He.glo_ok T.kin T.ns (T.t.d.fact 10 (f := .glo "signed_field"))
theorem Txt.m_program_word (T : Txt w K mg base) : mg "program_word" = some (.ref (He.ga K "program_word")) := He.glo_ok T.kin T.ns (T.t.d.fact 11 (f := .glo "program_word"))
theorem Txt.m_reckoned (T : Txt w K mg base) : mg "reckoned" = some (.ref (He.ga K "reckoned")) := He.glo_ok T.kin T.ns (T.t.d.fact 12 (f := .glo "reckoned"))
theorem Txt.m_parted_words (T : Txt w K mg base) : mg "parted_words" = some (.ref (He.ga K "parted_words")) := He.glo_ok T.kin T.ns (T.t.d.fact 13 (f := .glo "parted_words"))
theorem Txt.m_require_step_word (T : Txt w K mg base) : mg "require_step_word" = some (.ref (He.ga K "require_step_word")) := He.glo_ok T.kin T.ns (T.t.d.fact 14 (f := .glo "require_step_word"))
theorem Txt.m_given_by (T : Txt w K mg base) : mg "given_by" = some (.ref (He.ga K "given_by")) := He.glo_ok T.kin T.ns (T.t.d.fact 15 (f := .glo "given_by"))
theorem Txt.m_is_leaf (T : Txt w K mg base) : mg "is_leaf" = some (.ref (He.ga K "is_leaf")) := He.glo_ok T.kin T.ns (T.t.d.fact 16 (f := .glo "is_leaf"))
theorem Txt.m_are_sides (T : Txt w K mg base) : mg "are_sides" = some (.ref (He.ga K "are_sides")) := He.glo_ok T.kin T.ns (T.t.d.fact 17 (f := .glo "are_sides"))
theorem Txt.m_is_leaf_any (T : Txt w K mg base) : mg "is_leaf_any" = some (.ref (He.ga K "is_leaf_any")) := He.glo_ok T.kin T.ns (T.t.d.fact 18 (f := .glo "is_leaf_any"))
theorem Txt.m_is_formula (T : Txt w K mg base) : mg "is_formula" = some (.ref (He.ga K "is_formula")) := He.glo_ok T.kin T.ns (T.t.d.fact 19 (f := .glo "is_formula"))
theorem Txt.m_require_formula (T : Txt w K mg base) : mg "require_formula" = some (.ref (He.ga K "require_formula")) := He.glo_ok T.kin T.ns (T.t.d.fact 20 (f := .glo "require_formula"))
theorem Txt.m_height_in (T : Txt w K mg base) : mg "height_in" = some (.ref (He.ga K "height_in")) := He.glo_ok T.kin T.ns (T.t.d.fact 21 (f := .glo "height_in"))
theorem Txt.m_nodes_of (T : Txt w K mg base) : mg "nodes_of" = some (.ref (He.ga K "nodes_of")) := He.glo_ok T.kin T.ns (T.t.d.fact 22 (f := .glo "nodes_of"))
theorem Txt.m_words_in (T : Txt w K mg base) : mg "words_in" = some (.ref (He.ga K "words_in")) := He.glo_ok T.kin T.ns (T.t.d.fact 23 (f := .glo "words_in"))
theorem Txt.m_formula_height (T : Txt w K mg base) : mg "formula_height" = some (.ref (He.ga K "formula_height")) := He.glo_ok T.kin T.ns (T.t.d.fact 24 (f := .glo "formula_height"))
theorem Txt.m_formula_steps (T : Txt w K mg base) : mg "formula_steps" = some (.ref (He.ga K "formula_steps")) := He.glo_ok T.kin T.ns (T.t.d.fact 25 (f := .glo "formula_steps"))
theorem Txt.m_given_fields (T : Txt w K mg base) : mg "given_fields" = some (.ref (He.ga K "given_fields")) := He.glo_ok T.kin T.ns (T.t.d.fact 26 (f := .glo "given_fields"))
theorem Txt.m_ended_fields (T : Txt w K mg base) : mg "ended_fields" = some (.ref (He.ga K "ended_fields")) := He.glo_ok T.kin T.ns (T.t.d.fact 27 (f := .glo "ended_fields"))
theorem Txt.m_special_fields (T : Txt w K mg base) : mg "special_fields" = some (.ref (He.ga K "special_fields")) := He.glo_ok T.kin T.ns (T.t.d.fact 28 (f := .glo "special_fields"))
theorem Txt.m_following (T : Txt w K mg base) : mg "following" = some (.ref (He.ga K "following")) := He.glo_ok T.kin T.ns (T.t.d.fact 29 (f := .glo "following"))
theorem Txt.m_step_fields (T : Txt w K mg base) : mg "step_fields" = some (.ref (He.ga K "step_fields")) := He.glo_ok T.kin T.ns (T.t.d.fact 30 (f := .glo "step_fields"))
theorem Txt.m_checked_fields (T : Txt w K mg base) : mg "checked_fields" = some (.ref (He.ga K "checked_fields")) := He.glo_ok T.kin T.ns (T.t.d.fact 31 (f := .glo "checked_fields"))
theorem Txt.m_is_end (T : Txt w K mg base) : mg "is_end" = some (.ref (He.ga K "is_end")) := He.glo_ok T.kin T.ns (T.t.d.fact 32 (f := .glo "is_end"))
theorem Txt.m_are_bells (T : Txt w K mg base) : mg "are_bells" = some (.ref (He.ga K "are_bells")) := He.glo_ok T.kin T.ns (T.t.d.fact 33 (f := .glo "are_bells"))
theorem Txt.m_fields_of_state (T : Txt w K mg base) : mg "fields_of_state" = some (.ref (He.ga K "fields_of_state")) := He.glo_ok T.kin T.ns (T.t.d.fact 34 (f := .glo "fields_of_state"))
theorem Txt.m_made_plain (T : Txt w K mg base) : mg "made_plain" = some (.ref (He.ga K "made_plain")) := He.glo_ok T.kin T.ns (T.t.d.fact 35 (f := .glo "made_plain"))
theorem Txt.m_behind_step (T : Txt w K mg base) : mg "behind_step" = some (.ref (He.ga K "behind_step")) := He.glo_ok T.kin T.ns (T.t.d.fact 36 (f := .glo "behind_step"))
theorem Txt.m_require_steps (T : Txt w K mg base) : mg "require_steps" = some (.ref (He.ga K "require_steps")) := He.glo_ok T.kin T.ns (T.t.d.fact 37 (f := .glo "require_steps"))
theorem Txt.m_law_dice (T : Txt w K mg base) : mg "_law_dice" = some (.ref (He.ga K "_law_dice")) := He.glo_ok T.kin T.ns (T.t.d.fact 38 (f := .glo "_law_dice"))
theorem Txt.m_law_roll (T : Txt w K mg base) : mg "_law_roll" = some (.ref (He.ga K "_law_roll")) := He.glo_ok T.kin T.ns (T.t.d.fact 39 (f := .glo "_law_roll"))
theorem Txt.m_law_one_of (T : Txt w K mg base) : mg "_law_one_of" = some (.ref (He.ga K "_law_one_of")) := He.glo_ok T.kin T.ns (T.t.d.fact 40 (f := .glo "_law_one_of"))
theorem Txt.m_law_two_to (T : Txt w K mg base) : mg "_law_two_to" = some (.ref (He.ga K "_law_two_to")) := He.glo_ok T.kin T.ns (T.t.d.fact 41 (f := .glo "_law_two_to"))
theorem Txt.m_law_signed (T : Txt w K mg base) : mg "_law_signed" = some (.ref (He.ga K "_law_signed")) := He.glo_ok T.kin T.ns (T.t.d.fact 42 (f := .glo "_law_signed"))
theorem Txt.m_law_fields (T : Txt w K mg base) : mg "_law_fields" = some (.ref (He.ga K "_law_fields")) := He.glo_ok T.kin T.ns (T.t.d.fact 43 (f := .glo "_law_fields"))
theorem Txt.m_law_word_at (T : Txt w K mg base) : mg "_law_word_at" = some (.ref (He.ga K "_law_word_at")) := He.glo_ok T.kin T.ns (T.t.d.fact 44 (f := .glo "_law_word_at"))
theorem Txt.m_law_memory_drawn (T : Txt w K mg base) : mg "_law_memory_drawn" = some (.ref (He.ga K "_law_memory_drawn")) := He.glo_ok T.kin T.ns (T.t.d.fact 45 (f := .glo "_law_memory_drawn"))
theorem Txt.m_law_plain_first (T : Txt w K mg base) : mg "_law_plain_first" = some (.ref (He.ga K "_law_plain_first")) := He.glo_ok T.kin T.ns (T.t.d.fact 46 (f := .glo "_law_plain_first"))
theorem Txt.m_law_reckoned (T : Txt w K mg base) : mg "_law_reckoned" = some (.ref (He.ga K "_law_reckoned")) := He.glo_ok T.kin T.ns (T.t.d.fact 47 (f := .glo "_law_reckoned"))
theorem Txt.m_law_special (T : Txt w K mg base) : mg "_law_special" = some (.ref (He.ga K "_law_special")) := He.glo_ok T.kin T.ns (T.t.d.fact 48 (f := .glo "_law_special"))
theorem Txt.m_law_plain_step (T : Txt w K mg base) : mg "_law_plain_step" = some (.ref (He.ga K "_law_plain_step")) := He.glo_ok T.kin T.ns (T.t.d.fact 49 (f := .glo "_law_plain_step"))
theorem Txt.m_law_formula_drawn (T : Txt w K mg base) : mg "_law_formula_drawn" = some (.ref (He.ga K "_law_formula_drawn")) := He.glo_ok T.kin T.ns (T.t.d.fact 50 (f := .glo "_law_formula_drawn"))
theorem Txt.m_law_valued (T : Txt w K mg base) : mg "_law_valued" = some (.ref (He.ga K "_law_valued")) := He.glo_ok T.kin T.ns (T.t.d.fact 51 (f := .glo "_law_valued"))
theorem Txt.m_law_value (T : Txt w K mg base) : mg "_law_value" = some (.ref (He.ga K "_law_value")) := He.glo_ok T.kin T.ns (T.t.d.fact 52 (f := .glo "_law_value"))
theorem Txt.m_law_told (T : Txt w K mg base) : mg "_law_told" = some (.ref (He.ga K "_law_told")) := He.glo_ok T.kin T.ns (T.t.d.fact 53 (f := .glo "_law_told"))
theorem Txt.m_law_right (T : Txt w K mg base) : mg "_law_right" = some (.ref (He.ga K "_law_right")) := He.glo_ok T.kin T.ns (T.t.d.fact 54 (f := .glo "_law_right"))
theorem Txt.m_law (T : Txt w K mg base) : mg "law" = some (.ref (He.ga K "law")) := He.glo_ok T.kin T.ns (T.t.d.fact 55 (f := .glo "law"))
theorem Txt.c_Shape (T : Txt w K mg base) : ∃ u, mg "Shape" = some u ∧ RelV (.ref (He.ga K "Shape")) u := ⟨_, He.glo_ok T.kin T.ns (T.t.d.fact 56 (f := .glo "Shape")), rfl⟩
theorem Txt.m_Shape (T : Txt w K mg base) : mg "Shape" = some (.ref (He.ga K "Shape")) := He.glo_ok T.kin T.ns (T.t.d.fact 56 (f := .glo "Shape"))
theorem Txt.c_KnownFields (T : Txt w K mg base) : ∃ u, mg "KnownFields" = some u ∧ RelV (.ref (He.ga K "KnownFields")) u := ⟨_, He.glo_ok T.kin T.ns (T.t.d.fact 57 (f := .glo "KnownFields")), rfl⟩
theorem Txt.m_KnownFields (T : Txt w K mg base) : mg "KnownFields" = some (.ref (He.ga K "KnownFields")) := He.glo_ok T.kin T.ns (T.t.d.fact 57 (f := .glo "KnownFields"))
theorem Txt.c_Plain (T : Txt w K mg base) : ∃ u, mg "Plain" = some u ∧ RelV (.ref (He.ga K "Plain")) u := ⟨_, He.glo_ok T.kin T.ns (T.t.d.fact 58 (f := .glo "Plain")), rfl⟩
theorem Txt.m_Plain (T : Txt w K mg base) : mg "Plain" = some (.ref (He.ga K "Plain")) := He.glo_ok T.kin T.ns (T.t.d.fact 58 (f := .glo "Plain"))
theorem Txt.c_Refused (T : Txt w K mg base) : ∃ u, mg "Refused" = some u ∧ RelV (.ref (He.ga K "Refused")) u := ⟨_, He.glo_ok T.kin T.ns (T.t.d.fact 59 (f := .glo "Refused")), rfl⟩
theorem Txt.m_Refused (T : Txt w K mg base) : mg "Refused" = some (.ref (He.ga K "Refused")) := He.glo_ok T.kin T.ns (T.t.d.fact 59 (f := .glo "Refused"))
theorem Txt.c_TooMany (T : Txt w K mg base) : ∃ u, mg "TooMany" = some u ∧ RelV (.ref (He.ga K "TooMany")) u := ⟨_, He.glo_ok T.kin T.ns (T.t.d.fact 60 (f := .glo "TooMany")), rfl⟩
theorem Txt.m_TooMany (T : Txt w K mg base) : mg "TooMany" = some (.ref (He.ga K "TooMany")) := He.glo_ok T.kin T.ns (T.t.d.fact 60 (f := .glo "TooMany"))
theorem Txt.c_REGISTER_NUMBERS (T : Txt w K mg base) : ∃ u, mg "REGISTER_NUMBERS" = some u ∧ RelV (.ref (He.ga K "REGISTER_NUMBERS")) u := ⟨_, He.glo_ok T.kin T.ns (T.t.d.fact 61 (f := .glo "REGISTER_NUMBERS")), rfl⟩
theorem Txt.m_REGISTER_NUMBERS (T : Txt w K mg base) : mg "REGISTER_NUMBERS" = some (.ref (He.ga K "REGISTER_NUMBERS")) := He.glo_ok T.kin T.ns (T.t.d.fact 61 (f := .glo "REGISTER_NUMBERS"))
theorem Txt.c_PLAIN_OPS (T : Txt w K mg base) : ∃ u, mg "PLAIN_OPS" = some u ∧ RelV (.ref (He.ga K "PLAIN_OPS")) u := ⟨_, He.glo_ok T.kin T.ns (T.t.d.fact 62 (f := .glo "PLAIN_OPS")), rfl⟩
theorem Txt.m_PLAIN_OPS (T : Txt w K mg base) : mg "PLAIN_OPS" = some (.ref (He.ga K "PLAIN_OPS")) := He.glo_ok T.kin T.ns (T.t.d.fact 62 (f := .glo "PLAIN_OPS"))
theorem Txt.c_END (T : Txt w K mg base) : ∃ u, mg "END" = some u ∧ RelV (.ref (He.ga K "END")) u := ⟨_, He.glo_ok T.kin T.ns (T.t.d.fact 63 (f := .glo "END")), rfl⟩
theorem Txt.m_END (T : Txt w K mg base) : mg "END" = some (.ref (He.ga K "END")) := He.glo_ok T.kin T.ns (T.t.d.fact 63 (f := .glo "END"))
theorem Txt.c_WORD_FAULT (T : Txt w K mg base) : ∃ u, mg "WORD_FAULT" = some u ∧ RelV (.ref (He.ga K "WORD_FAULT")) u := ⟨_, He.glo_ok T.kin T.ns (T.t.d.fact 64 (f := .glo "WORD_FAULT")), rfl⟩
theorem Txt.m_WORD_FAULT (T : Txt w K mg base) : mg "WORD_FAULT" = some (.ref (He.ga K "WORD_FAULT")) := He.glo_ok T.kin T.ns (T.t.d.fact 64 (f := .glo "WORD_FAULT"))
theorem Txt.c_DIVIDE_FAULT (T : Txt w K mg base) : ∃ u, mg "DIVIDE_FAULT" = some u ∧ RelV (.ref (He.ga K "DIVIDE_FAULT")) u := ⟨_, He.glo_ok T.kin T.ns (T.t.d.fact 65 (f := .glo "DIVIDE_FAULT")), rfl⟩
theorem Txt.m_DIVIDE_FAULT (T : Txt w K mg base) : mg "DIVIDE_FAULT" = some (.ref (He.ga K "DIVIDE_FAULT")) := He.glo_ok T.kin T.ns (T.t.d.fact 65 (f := .glo "DIVIDE_FAULT"))
theorem Txt.c_LONG_KINDS (T : Txt w K mg base) : ∃ u, mg "LONG_KINDS" = some u ∧ RelV (.ref (He.ga K "LONG_KINDS")) u := ⟨_, He.glo_ok T.kin T.ns (T.t.d.fact 66 (f := .glo "LONG_KINDS")), rfl⟩
theorem Txt.m_LONG_KINDS (T : Txt w K mg base) : mg "LONG_KINDS" = some (.ref (He.ga K "LONG_KINDS")) := He.glo_ok T.kin T.ns (T.t.d.fact 66 (f := .glo "LONG_KINDS"))
theorem Txt.n_isinstance (T : Txt w K mg base) : mg "isinstance" = none := He.free_ok T.kin T.ns (T.t.d.fact 67 (f := .free "isinstance"))
theorem Txt.n_int (T : Txt w K mg base) : mg "int" = none := He.free_ok T.kin T.ns (T.t.d.fact 68 (f := .free "int"))
theorem Txt.n_bool (T : Txt w K mg base) : mg "bool" = none := He.free_ok T.kin T.ns (T.t.d.fact 69 (f := .free "bool"))
theorem Txt.n_tuple (T : Txt w K mg base) : mg "tuple" = none := He.free_ok T.kin T.ns (T.t.d.fact 70 (f := .free "tuple"))
theorem Txt.n_list (T : Txt w K mg base) : mg "list" = none := He.free_ok T.kin T.ns (T.t.d.fact 71 (f := .free "list"))
theorem Txt.n_dict (T : Txt w K mg base) : mg "dict" = none := He.free_ok T.kin T.ns (T.t.d.fact 72 (f := .free "dict"))
theorem Txt.n_len (T : Txt w K mg base) : mg "len" = none := He.free_ok T.kin T.ns (T.t.d.fact 73 (f := .free "len"))
theorem Txt.n_all (T : Txt w K mg base) : mg "all" = none := He.free_ok T.kin T.ns (T.t.d.fact 74 (f := .free "all"))
theorem Txt.n_range (T : Txt w K mg base) : mg "range" = none := He.free_ok T.kin T.ns (T.t.d.fact 75 (f := .free "range"))
theorem Txt.n_sorted (T : Txt w K mg base) : mg "sorted" = none := He.free_ok T.kin T.ns (T.t.d.fact 76 (f := .free "sorted"))
theorem Txt.n_max (T : Txt w K mg base) : mg "max" = none := He.free_ok T.kin T.ns (T.t.d.fact 77 (f := .free "max"))
theorem Txt.n_min (T : Txt w K mg base) : mg "min" = none := He.free_ok T.kin T.ns (T.t.d.fact 78 (f := .free "min"))
theorem Txt.n_abs (T : Txt w K mg base) : mg "abs" = none := He.free_ok T.kin T.ns (T.t.d.fact 79 (f := .free "abs"))
theorem Txt.n_str (T : Txt w K mg base) : mg "str" = none := He.free_ok T.kin T.ns (T.t.d.fact 80 (f := .free "str"))
theorem Txt.n_super (T : Txt w K mg base) : mg "super" = none := He.free_ok T.kin T.ns (T.t.d.fact 81 (f := .free "super"))
theorem Txt.n_zip (T : Txt w K mg base) : mg "zip" = none := He.free_ok T.kin T.ns (T.t.d.fact 82 (f := .free "zip"))
theorem Txt.c_MOST_WORDS (T : Txt w K mg base) : ∃ u, mg "MOST_WORDS" = some u ∧ RelV (.int (256)) u := (He.int_ok T.kin T.ns (T.t.d.fact 83 (f := .int "MOST_WORDS" (256)))).elim fun t e => ⟨_, e, t, rfl⟩
theorem Txt.c_NO_WORD (T : Txt w K mg base) : ∃ u, mg "NO_WORD" = some u ∧ RelV (.int (65535)) u := (He.int_ok T.kin T.ns (T.t.d.fact 84 (f := .int "NO_WORD" (65535)))).elim fun t e => ⟨_, e, t, rfl⟩
theorem Txt.c_LEAST_WIDTH (T : Txt w K mg base) : ∃ u, mg "LEAST_WIDTH" = some u ∧ RelV (.int (4)) u := (He.int_ok T.kin T.ns (T.t.d.fact 85 (f := .int "LEAST_WIDTH" (4)))).elim fun t e => ⟨_, e, t, rfl⟩
theorem Txt.c_MOST_WIDTH (T : Txt w K mg base) : ∃ u, mg "MOST_WIDTH" = some u ∧ RelV (.int (16)) u := (He.int_ok T.kin T.ns (T.t.d.fact 86 (f := .int "MOST_WIDTH" (16)))).elim fun t e => ⟨_, e, t, rfl⟩
theorem Txt.c_MOST_PLACES (T : Txt w K mg base) : ∃ u, mg "MOST_PLACES" = some u ∧ RelV (.int (1000)) u := (He.int_ok T.kin T.ns (T.t.d.fact 87 (f := .int "MOST_PLACES" (1000)))).elim fun t e => ⟨_, e, t, rfl⟩
theorem Txt.c_OP_PLUS (T : Txt w K mg base) : ∃ u, mg "OP_PLUS" = some u ∧ RelV (.int (8)) u := (He.int_ok T.kin T.ns (T.t.d.fact 88 (f := .int "OP_PLUS" (8)))).elim fun t e => ⟨_, e, t, rfl⟩
theorem Txt.c_OP_SET (T : Txt w K mg base) : ∃ u, mg "OP_SET" = some u ∧ RelV (.int (9)) u := (He.int_ok T.kin T.ns (T.t.d.fact 89 (f := .int "OP_SET" (9)))).elim fun t e => ⟨_, e, t, rfl⟩
theorem Txt.c_OP_LOAD (T : Txt w K mg base) : ∃ u, mg "OP_LOAD" = some u ∧ RelV (.int (10)) u := (He.int_ok T.kin T.ns (T.t.d.fact 90 (f := .int "OP_LOAD" (10)))).elim fun t e => ⟨_, e, t, rfl⟩
theorem Txt.c_OP_STORE (T : Txt w K mg base) : ∃ u, mg "OP_STORE" = some u ∧ RelV (.int (11)) u := (He.int_ok T.kin T.ns (T.t.d.fact 91 (f := .int "OP_STORE" (11)))).elim fun t e => ⟨_, e, t, rfl⟩
theorem Txt.c_OP_SAME (T : Txt w K mg base) : ∃ u, mg "OP_SAME" = some u ∧ RelV (.int (12)) u := (He.int_ok T.kin T.ns (T.t.d.fact 92 (f := .int "OP_SAME" (12)))).elim fun t e => ⟨_, e, t, rfl⟩
theorem Txt.c_OP_UNDER (T : Txt w K mg base) : ∃ u, mg "OP_UNDER" = some u ∧ RelV (.int (13)) u := (He.int_ok T.kin T.ns (T.t.d.fact 93 (f := .int "OP_UNDER" (13)))).elim fun t e => ⟨_, e, t, rfl⟩
theorem Txt.c_OP_JUMP (T : Txt w K mg base) : ∃ u, mg "OP_JUMP" = some u ∧ RelV (.int (14)) u := (He.int_ok T.kin T.ns (T.t.d.fact 94 (f := .int "OP_JUMP" (14)))).elim fun t e => ⟨_, e, t, rfl⟩
theorem Txt.c_OP_SPECIAL (T : Txt w K mg base) : ∃ u, mg "OP_SPECIAL" = some u ∧ RelV (.int (15)) u := (He.int_ok T.kin T.ns (T.t.d.fact 95 (f := .int "OP_SPECIAL" (15)))).elim fun t e => ⟨_, e, t, rfl⟩
theorem Txt.c_END_STEP (T : Txt w K mg base) : ∃ u, mg "END_STEP" = some u ∧ RelV (.int (0)) u := (He.int_ok T.kin T.ns (T.t.d.fact 96 (f := .int "END_STEP" (0)))).elim fun t e => ⟨_, e, t, rfl⟩
theorem Txt.c_PUT_STEP (T : Txt w K mg base) : ∃ u, mg "PUT_STEP" = some u ∧ RelV (.int (1)) u := (He.int_ok T.kin T.ns (T.t.d.fact 97 (f := .int "PUT_STEP" (1)))).elim fun t e => ⟨_, e, t, rfl⟩
theorem Txt.c_BACK_STEP (T : Txt w K mg base) : ∃ u, mg "BACK_STEP" = some u ∧ RelV (.int (2)) u := (He.int_ok T.kin T.ns (T.t.d.fact 98 (f := .int "BACK_STEP" (2)))).elim fun t e => ⟨_, e, t, rfl⟩
theorem Txt.c_TIMES_STEP (T : Txt w K mg base) : ∃ u, mg "TIMES_STEP" = some u ∧ RelV (.int (4)) u := (He.int_ok T.kin T.ns (T.t.d.fact 99 (f := .int "TIMES_STEP" (4)))).elim fun t e => ⟨_, e, t, rfl⟩
theorem Txt.c_PART_STEP (T : Txt w K mg base) : ∃ u, mg "PART_STEP" = some u ∧ RelV (.int (5)) u := (He.int_ok T.kin T.ns (T.t.d.fact 100 (f := .int "PART_STEP" (5)))).elim fun t e => ⟨_, e, t, rfl⟩
theorem Txt.c_REST_STEP (T : Txt w K mg base) : ∃ u, mg "REST_STEP" = some u ∧ RelV (.int (6)) u := (He.int_ok T.kin T.ns (T.t.d.fact 101 (f := .int "REST_STEP" (6)))).elim fun t e => ⟨_, e, t, rfl⟩
theorem Txt.c_MOST_NODES (T : Txt w K mg base) : ∃ u, mg "MOST_NODES" = some u ∧ RelV (.int (60)) u := (He.int_ok T.kin T.ns (T.t.d.fact 102 (f := .int "MOST_NODES" (60)))).elim fun t e => ⟨_, e, t, rfl⟩
theorem Txt.c_LEAF_SIZE (T : Txt w K mg base) : ∃ u, mg "LEAF_SIZE" = some u ∧ RelV (.int (2)) u := (He.int_ok T.kin T.ns (T.t.d.fact 103 (f := .int "LEAF_SIZE" (2)))).elim fun t e => ⟨_, e, t, rfl⟩
theorem Txt.c_TWO_SIZE (T : Txt w K mg base) : ∃ u, mg "TWO_SIZE" = some u ∧ RelV (.int (4)) u := (He.int_ok T.kin T.ns (T.t.d.fact 104 (f := .int "TWO_SIZE" (4)))).elim fun t e => ⟨_, e, t, rfl⟩
theorem Txt.c_TOLD_LEAST (T : Txt w K mg base) : ∃ u, mg "TOLD_LEAST" = some u ∧ RelV (.int (-256)) u := (He.int_ok T.kin T.ns (T.t.d.fact 105 (f := .int "TOLD_LEAST" (-256)))).elim fun t e => ⟨_, e, t, rfl⟩
theorem Txt.c_TOLD_MOST (T : Txt w K mg base) : ∃ u, mg "TOLD_MOST" = some u ∧ RelV (.int (255)) u := (He.int_ok T.kin T.ns (T.t.d.fact 106 (f := .int "TOLD_MOST" (255)))).elim fun t e => ⟨_, e, t, rfl⟩
theorem Txt.c_MOST_CELL (T : Txt w K mg base) : ∃ u, mg "MOST_CELL" = some u ∧ RelV (.int (31)) u := (He.int_ok T.kin T.ns (T.t.d.fact 107 (f := .int "MOST_CELL" (31)))).elim fun t e => ⟨_, e, t, rfl⟩
theorem Txt.c_MOST_STEPS (T : Txt w K mg base) : ∃ u, mg "MOST_STEPS" = some u ∧ RelV (.int (3000)) u := (He.int_ok T.kin T.ns (T.t.d.fact 108 (f := .int "MOST_STEPS" (3000)))).elim fun t e => ⟨_, e, t, rfl⟩
theorem Txt.c_NEAR_BITS (T : Txt w K mg base) : ∃ u, mg "NEAR_BITS" = some u ∧ RelV (.int (6)) u := (He.int_ok T.kin T.ns (T.t.d.fact 109 (f := .int "NEAR_BITS" (6)))).elim fun t e => ⟨_, e, t, rfl⟩
theorem Txt.c_TOLD_BITS (T : Txt w K mg base) : ∃ u, mg "TOLD_BITS" = some u ∧ RelV (.int (9)) u := (He.int_ok T.kin T.ns (T.t.d.fact 110 (f := .int "TOLD_BITS" (9)))).elim fun t e => ⟨_, e, t, rfl⟩
theorem Txt.c_NUMBER (T : Txt w K mg base) : ∃ u, mg "NUMBER" = some u ∧ RelV (.str "number") u := (He.str_ok T.kin T.ns (T.t.d.fact 111 (f := .str "NUMBER" "number"))).elim fun t e => ⟨_, e, t, rfl⟩
theorem Txt.c_CELL (T : Txt w K mg base) : ∃ u, mg "CELL" = some u ∧ RelV (.str "cell") u := (He.str_ok T.kin T.ns (T.t.d.fact 112 (f := .str "CELL" "cell"))).elim fun t e => ⟨_, e, t, rfl⟩
theorem Txt.c_TWO (T : Txt w K mg base) : ∃ u, mg "TWO" = some u ∧ RelV (.str "two") u := (He.str_ok T.kin T.ns (T.t.d.fact 113 (f := .str "TWO" "two"))).elim fun t e => ⟨_, e, t, rfl⟩
theorem Txt.mk_Shape (T : Txt w K mg base) : Mk K (He.ga K "Shape") (He.ma K (He.ga K "Shape") "__init__") := He.mkr_ok (T.t.d.fact 114 (f := .mkr "Shape"))
theorem Txt.mk_KnownFields (T : Txt w K mg base) : Mk K (He.ga K "KnownFields") (He.ma K (He.ga K "KnownFields") "__init__") := He.mkr_ok (T.t.d.fact 115 (f := .mkr "KnownFields"))
theorem Txt.mk_Plain (T : Txt w K mg base) : Mk K (He.ga K "Plain") (He.ma K (He.ga K "Plain") "__init__") := He.mkr_ok (T.t.d.fact 116 (f := .mkr "Plain"))
theorem Txt.me_run (T : Txt w K mg base) : Meth K (He.ga K "Plain") "run" (He.ma K (He.ga K "Plain") "run") := He.meth_ok (T.t.d.fact 117 (f := .meth "Plain" "run"))
theorem Txt.exm_Refused_Refused (T : Txt w K mg base) : PySem.W.exmOne K (.ref (He.ga K "Refused")) (.ref (He.ga K "Refused")) = some true := He.exm_ok (T.t.d.fact 118 (f := .exm "Refused" "Refused" true))
theorem Txt.exm_TooMany_Refused (T : Txt w K mg base) : PySem.W.exmOne K (.ref (He.ga K "TooMany")) (.ref (He.ga K "Refused")) = some false := He.exm_ok (T.t.d.fact 119 (f := .exm "TooMany" "Refused" false))
theorem Txt.exm_TooMany_TooMany (T : Txt w K mg base) : PySem.W.exmOne K (.ref (He.ga K "TooMany")) (.ref (He.ga K "TooMany")) = some true := He.exm_ok (T.t.d.fact 120 (f := .exm "TooMany" "TooMany" true))
theorem Txt.f_is_integer (T : Txt w K mg base) : ∃ fd, FunD K "is_integer" "is_integer" (defArgs (top 14)) (defBody (top 14)) (defScope (top 14)) [] [] (He.ga K "is_integer") fd := T.t.d.def_ 0 (d := ⟨("is_integer", none), "is_integer", "is_integer", defArgs (top 14), defBody (top 14), defScope (top 14), [], []⟩)
theorem Txt.f_is_within (T : Txt w K mg base) : ∃ fd, FunD K "is_within" "is_within" (defArgs (top 16)) (defBody (top 16)) (defScope (top 16)) [] [] (He.ga K "is_within") fd := T.t.d.def_ 1 (d := ⟨("is_within", none), "is_within", "is_within", defArgs (top 16), defBody (top 16), defScope (top 16), [], []⟩)
theorem Txt.f_is_step_word (T : Txt w K mg base) : ∃ fd, FunD K "is_step_word" "is_step_word" (defArgs (top 38)) (defBody (top 38)) (defScope (top 38)) [] [] (He.ga K "is_step_word") fd := T.t.d.def_ 2 (d := ⟨("is_step_word", none), "is_step_word", "is_step_word", defArgs (top 38), defBody (top 38), defScope (top 38), [], []⟩)
theorem Txt.f_is_program (T : Txt w K mg base) : ∃ fd, FunD K "is_program" "is_program" (defArgs (top 39)) (defBody (top 39)) (defScope (top 39)) [] [] (He.ga K "is_program") fd := T.t.d.def_ 3 (d := ⟨("is_program", none), "is_program", "is_program", defArgs (top 39), defBody (top 39), defScope (top 39), [], []⟩)
theorem Txt.f_is_memory_of (T : Txt w K mg base) : ∃ fd, FunD K "is_memory_of" "is_memory_of" (defArgs (top 40)) (defBody (top 40)) (defScope (top 40)) [] [] (He.ga K "is_memory_of") fd := T.t.d.def_ 4 (d := ⟨("is_memory_of", none), "is_memory_of", "is_memory_of", defArgs (top 40), defBody (top 40), defScope (top 40), [], []⟩)
theorem Txt.f_are_words (T : Txt w K mg base) : ∃ fd, FunD K "are_words" "are_words" (defArgs (top 41)) (defBody (top 41)) (defScope (top 41)) [] [] (He.ga K "are_words") fd := T.t.d.def_ 5 (d := ⟨("are_words", none), "are_words", "are_words", defArgs (top 41), defBody (top 41), defScope (top 41), [], []⟩)
theorem Txt.f_require_shape (T : Txt w K mg base) : ∃ fd, FunD K "require_shape" "require_shape" (defArgs (top 43)) (defBody (top 43)) (defScope (top 43)) [] [] (He.ga K "require_shape") fd := T.t.d.def_ 6 (d := ⟨("require_shape", none), "require_shape", "require_shape", defArgs (top 43), defBody (top 43), defScope (top 43), [], []⟩)
theorem Txt.f_require_program (T : Txt w K mg base) : ∃ fd, FunD K "require_program" "require_program" (defArgs (top 44)) (defBody (top 44)) (defScope (top 44)) [] [] (He.ga K "require_program") fd := T.t.d.def_ 7 (d := ⟨("require_program", none), "require_program", "require_program", defArgs (top 44), defBody (top 44), defScope (top 44), [], []⟩)
theorem Txt.f_require_memory (T : Txt w K mg base) : ∃ fd, FunD K "require_memory" "require_memory" (defArgs (top 45)) (defBody (top 45)) (defScope (top 45)) [] [] (He.ga K "require_memory") fd := T.t.d.def_ 8 (d := ⟨("require_memory", none), "require_memory", "require_memory", defArgs (top 45), defBody (top 45), defScope (top 45), [], []⟩)
theorem Txt.f_fields_in (T : Txt w K mg base) : ∃ fd, FunD K "fields_in" "fields_in" (defArgs (top 46)) (defBody (top 46)) (defScope (top 46)) [] [] (He.ga K "fields_in") fd := T.t.d.def_ 9 (d := ⟨("fields_in", none), "fields_in", "fields_in", defArgs (top 46), defBody (top 46), defScope (top 46), [], []⟩)
theorem Txt.f_signed_field (T : Txt w K mg base) : ∃ fd, FunD K "signed_field" "signed_field" (defArgs (top 47)) (defBody (top 47)) (defScope (top 47)) [] [] (He.ga K "signed_field") fd := T.t.d.def_ 10 (d := ⟨("signed_field", none), "signed_field", "signed_field", defArgs (top 47), defBody (top 47), defScope (top 47), [], []⟩)
theorem Txt.f_program_word (T : Txt w K mg base) : ∃ fd, FunD K "program_word" "program_word" (defArgs (top 48)) (defBody (top 48)) (defScope (top 48)) [] [] (He.ga K "program_word") fd := T.t.d.def_ 11 (d := ⟨("program_word", none), "program_word", "program_word", defArgs (top 48), defBody (top 48), defScope (top 48), [], []⟩)
theorem Txt.f_reckoned (T : Txt w K mg base) : ∃ fd, FunD K "reckoned" "reckoned" (defArgs (top 49)) (defBody (top 49)) (defScope (top 49)) [] [] (He.ga K "reckoned") fd := T.t.d.def_ 12 (d := ⟨("reckoned", none), "reckoned", "reckoned", defArgs (top 49), defBody (top 49), defScope (top 49), [], []⟩)
theorem Txt.f_parted_words (T : Txt w K mg base) : ∃ fd, FunD K "parted_words" "parted_words" (defArgs (top 50)) (defBody (top 50)) (defScope (top 50)) [] [] (He.ga K "parted_words") fd := T.t.d.def_ 13 (d := ⟨("parted_words", none), "parted_words", "parted_words", defArgs (top 50), defBody (top 50), defScope (top 50), [], []⟩)
theorem Txt.f_require_step_word (T : Txt w K mg base) : ∃ fd, FunD K "require_step_word" "require_step_word" (defArgs (top 51)) (defBody (top 51)) (defScope (top 51)) [] [] (He.ga K "require_step_word") fd := T.t.d.def_ 14 (d := ⟨("require_step_word", none), "require_step_word", "require_step_word", defArgs (top 51), defBody (top 51), defScope (top 51), [], []⟩)
theorem Txt.f_given_by (T : Txt w K mg base) : ∃ fd, FunD K "given_by" "given_by" (defArgs (top 52)) (defBody (top 52)) (defScope (top 52)) [] [] (He.ga K "given_by") fd := T.t.d.def_ 15 (d := ⟨("given_by", none), "given_by", "given_by", defArgs (top 52), defBody (top 52), defScope (top 52), [], []⟩)
theorem Txt.f_is_leaf (T : Txt w K mg base) : ∃ fd, FunD K "is_leaf" "is_leaf" (defArgs (top 65)) (defBody (top 65)) (defScope (top 65)) [] [] (He.ga K "is_leaf") fd := T.t.d.def_ 16 (d := ⟨("is_leaf", none), "is_leaf", "is_leaf", defArgs (top 65), defBody (top 65), defScope (top 65), [], []⟩)
theorem Txt.f_are_sides (T : Txt w K mg base) : ∃ fd, FunD K "are_sides" "are_sides" (defArgs (top 66)) (defBody (top 66)) (defScope (top 66)) [] [] (He.ga K "are_sides") fd := T.t.d.def_ 17 (d := ⟨("are_sides", none), "are_sides", "are_sides", defArgs (top 66), defBody (top 66), defScope (top 66), [], []⟩)
theorem Txt.f_is_leaf_any (T : Txt w K mg base) : ∃ fd, FunD K "is_leaf_any" "is_leaf_any" (defArgs (top 67)) (defBody (top 67)) (defScope (top 67)) [] [] (He.ga K "is_leaf_any") fd := T.t.d.def_ 18 (d := ⟨("is_leaf_any", none), "is_leaf_any", "is_leaf_any", defArgs (top 67), defBody (top 67), defScope (top 67), [], []⟩)
theorem Txt.f_is_formula (T : Txt w K mg base) : ∃ fd, FunD K "is_formula" "is_formula" (defArgs (top 68)) (defBody (top 68)) (defScope (top 68)) [] [] (He.ga K "is_formula") fd := T.t.d.def_ 19 (d := ⟨("is_formula", none), "is_formula", "is_formula", defArgs (top 68), defBody (top 68), defScope (top 68), [], []⟩)
theorem Txt.f_require_formula (T : Txt w K mg base) : ∃ fd, FunD K "require_formula" "require_formula" (defArgs (top 69)) (defBody (top 69)) (defScope (top 69)) [] [] (He.ga K "require_formula") fd := T.t.d.def_ 20 (d := ⟨("require_formula", none), "require_formula", "require_formula", defArgs (top 69), defBody (top 69), defScope (top 69), [], []⟩)
theorem Txt.f_height_in (T : Txt w K mg base) : ∃ fd, FunD K "height_in" "height_in" (defArgs (top 70)) (defBody (top 70)) (defScope (top 70)) [] [] (He.ga K "height_in") fd := T.t.d.def_ 21 (d := ⟨("height_in", none), "height_in", "height_in", defArgs (top 70), defBody (top 70), defScope (top 70), [], []⟩)
theorem Txt.f_nodes_of (T : Txt w K mg base) : ∃ fd, FunD K "nodes_of" "nodes_of" (defArgs (top 71)) (defBody (top 71)) (defScope (top 71)) [] [] (He.ga K "nodes_of") fd := T.t.d.def_ 22 (d := ⟨("nodes_of", none), "nodes_of", "nodes_of", defArgs (top 71), defBody (top 71), defScope (top 71), [], []⟩)
theorem Txt.f_words_in (T : Txt w K mg base) : ∃ fd, FunD K "words_in" "words_in" (defArgs (top 72)) (defBody (top 72)) (defScope (top 72)) [] [] (He.ga K "words_in") fd := T.t.d.def_ 23 (d := ⟨("words_in", none), "words_in", "words_in", defArgs (top 72), defBody (top 72), defScope (top 72), [], []⟩)
theorem Txt.f_formula_height (T : Txt w K mg base) : ∃ fd, FunD K "formula_height" "formula_height" (defArgs (top 73)) (defBody (top 73)) (defScope (top 73)) [] [] (He.ga K "formula_height") fd := T.t.d.def_ 24 (d := ⟨("formula_height", none), "formula_height", "formula_height", defArgs (top 73), defBody (top 73), defScope (top 73), [], []⟩)
theorem Txt.f_formula_steps (T : Txt w K mg base) : ∃ fd, FunD K "formula_steps" "formula_steps" (defArgs (top 74)) (defBody (top 74)) (defScope (top 74)) [] [] (He.ga K "formula_steps") fd := T.t.d.def_ 25 (d := ⟨("formula_steps", none), "formula_steps", "formula_steps", defArgs (top 74), defBody (top 74), defScope (top 74), [], []⟩)
theorem Txt.f_given_fields (T : Txt w K mg base) : ∃ fd, FunD K "given_fields" "given_fields" (defArgs (top 83)) (defBody (top 83)) (defScope (top 83)) [] [] (He.ga K "given_fields") fd := T.t.d.def_ 26 (d := ⟨("given_fields", none), "given_fields", "given_fields", defArgs (top 83), defBody (top 83), defScope (top 83), [], []⟩)
theorem Txt.f_ended_fields (T : Txt w K mg base) : ∃ fd, FunD K "ended_fields" "ended_fields" (defArgs (top 85)) (defBody (top 85)) (defScope (top 85)) [] [] (He.ga K "ended_fields") fd := T.t.d.def_ 27 (d := ⟨("ended_fields", none), "ended_fields", "ended_fields", defArgs (top 85), defBody (top 85), defScope (top 85), [], []⟩)
theorem Txt.f_special_fields (T : Txt w K mg base) : ∃ fd, FunD K "special_fields" "special_fields" (defArgs (top 86)) (defBody (top 86)) (defScope (top 86)) [] [] (He.ga K "special_fields") fd := T.t.d.def_ 28 (d := ⟨("special_fields", none), "special_fields", "special_fields", defArgs (top 86), defBody (top 86), defScope (top 86), [], []⟩)
theorem Txt.f_following (T : Txt w K mg base) : ∃ fd, FunD K "following" "following" (defArgs (top 87)) (defBody (top 87)) (defScope (top 87)) [] [] (He.ga K "following") fd := T.t.d.def_ 29 (d := ⟨("following", none), "following", "following", defArgs (top 87), defBody (top 87), defScope (top 87), [], []⟩)
theorem Txt.f_step_fields (T : Txt w K mg base) : ∃ fd, FunD K "step_fields" "step_fields" (defArgs (top 89)) (defBody (top 89)) (defScope (top 89)) [] [] (He.ga K "step_fields") fd := T.t.d.def_ 30 (d := ⟨("step_fields", none), "step_fields", "step_fields", defArgs (top 89), defBody (top 89), defScope (top 89), [], []⟩)
theorem Txt.f_checked_fields (T : Txt w K mg base) : ∃ fd, FunD K "checked_fields" "checked_fields" (defArgs (top 92)) (defBody (top 92)) (defScope (top 92)) [] [] (He.ga K "checked_fields") fd := T.t.d.def_ 31 (d := ⟨("checked_fields", none), "checked_fields", "checked_fields", defArgs (top 92), defBody (top 92), defScope (top 92), [], []⟩)
theorem Txt.f_is_end (T : Txt w K mg base) : ∃ fd, FunD K "is_end" "is_end" (defArgs (top 93)) (defBody (top 93)) (defScope (top 93)) [] [] (He.ga K "is_end") fd := T.t.d.def_ 32 (d := ⟨("is_end", none), "is_end", "is_end", defArgs (top 93), defBody (top 93), defScope (top 93), [], []⟩)
theorem Txt.f_are_bells (T : Txt w K mg base) : ∃ fd, FunD K "are_bells" "are_bells" (defArgs (top 94)) (defBody (top 94)) (defScope (top 94)) [] [] (He.ga K "are_bells") fd := T.t.d.def_ 33 (d := ⟨("are_bells", none), "are_bells", "are_bells", defArgs (top 94), defBody (top 94), defScope (top 94), [], []⟩)
theorem Txt.f_fields_of_state (T : Txt w K mg base) : ∃ fd, FunD K "fields_of_state" "fields_of_state" (defArgs (top 97)) (defBody (top 97)) (defScope (top 97)) [] [] (He.ga K "fields_of_state") fd := T.t.d.def_ 34 (d := ⟨("fields_of_state", none), "fields_of_state", "fields_of_state", defArgs (top 97), defBody (top 97), defScope (top 97), [], []⟩)
theorem Txt.f_made_plain (T : Txt w K mg base) : ∃ fd, FunD K "made_plain" "made_plain" (defArgs (top 98)) (defBody (top 98)) (defScope (top 98)) [] [] (He.ga K "made_plain") fd := T.t.d.def_ 35 (d := ⟨("made_plain", none), "made_plain", "made_plain", defArgs (top 98), defBody (top 98), defScope (top 98), [], []⟩)
theorem Txt.f_behind_step (T : Txt w K mg base) : ∃ fd, FunD K "behind_step" "behind_step" (defArgs (top 99)) (defBody (top 99)) (defScope (top 99)) [] [] (He.ga K "behind_step") fd := T.t.d.def_ 36 (d := ⟨("behind_step", none), "behind_step", "behind_step", defArgs (top 99), defBody (top 99), defScope (top 99), [], []⟩)
theorem Txt.f_require_steps (T : Txt w K mg base) : ∃ fd, FunD K "require_steps" "require_steps" (defArgs (top 100)) (defBody (top 100)) (defScope (top 100)) [] [] (He.ga K "require_steps") fd := T.t.d.def_ 37 (d := ⟨("require_steps", none), "require_steps", "require_steps", defArgs (top 100), defBody (top 100), defScope (top 100), [], []⟩)
theorem Txt.f_law_dice (T : Txt w K mg base) : ∃ fd, FunD K "_law_dice" "_law_dice" (defArgs (top 102)) (defBody (top 102)) (defScope (top 102)) [] [] (He.ga K "_law_dice") fd := T.t.d.def_ 38 (d := ⟨("_law_dice", none), "_law_dice", "_law_dice", defArgs (top 102), defBody (top 102), defScope (top 102), [], []⟩)
theorem Txt.f_law_roll (T : Txt w K mg base) : ∃ fd, FunD K "_law_roll" "_law_roll" (defArgs (top 103)) (defBody (top 103)) (defScope (top 103)) [] [] (He.ga K "_law_roll") fd := T.t.d.def_ 39 (d := ⟨("_law_roll", none), "_law_roll", "_law_roll", defArgs (top 103), defBody (top 103), defScope (top 103), [], []⟩)
theorem Txt.f_law_one_of (T : Txt w K mg base) : ∃ fd, FunD K "_law_one_of" "_law_one_of" (defArgs (top 104)) (defBody (top 104)) (defScope (top 104)) [] [] (He.ga K "_law_one_of") fd := T.t.d.def_ 40 (d := ⟨("_law_one_of", none), "_law_one_of", "_law_one_of", defArgs (top 104), defBody (top 104), defScope (top 104), [], []⟩)
theorem Txt.f_law_two_to (T : Txt w K mg base) : ∃ fd, FunD K "_law_two_to" "_law_two_to" (defArgs (top 105)) (defBody (top 105)) (defScope (top 105)) [] [] (He.ga K "_law_two_to") fd := T.t.d.def_ 41 (d := ⟨("_law_two_to", none), "_law_two_to", "_law_two_to", defArgs (top 105), defBody (top 105), defScope (top 105), [], []⟩)
theorem Txt.f_law_signed (T : Txt w K mg base) : ∃ fd, FunD K "_law_signed" "_law_signed" (defArgs (top 106)) (defBody (top 106)) (defScope (top 106)) [] [] (He.ga K "_law_signed") fd := T.t.d.def_ 42 (d := ⟨("_law_signed", none), "_law_signed", "_law_signed", defArgs (top 106), defBody (top 106), defScope (top 106), [], []⟩)
theorem Txt.f_law_fields (T : Txt w K mg base) : ∃ fd, FunD K "_law_fields" "_law_fields" (defArgs (top 107)) (defBody (top 107)) (defScope (top 107)) [] [] (He.ga K "_law_fields") fd := T.t.d.def_ 43 (d := ⟨("_law_fields", none), "_law_fields", "_law_fields", defArgs (top 107), defBody (top 107), defScope (top 107), [], []⟩)
theorem Txt.f_law_word_at (T : Txt w K mg base) : ∃ fd, FunD K "_law_word_at" "_law_word_at" (defArgs (top 108)) (defBody (top 108)) (defScope (top 108)) [] [] (He.ga K "_law_word_at") fd := T.t.d.def_ 44 (d := ⟨("_law_word_at", none), "_law_word_at", "_law_word_at", defArgs (top 108), defBody (top 108), defScope (top 108), [], []⟩)
theorem Txt.f_law_memory_drawn (T : Txt w K mg base) : ∃ fd, FunD K "_law_memory_drawn" "_law_memory_drawn" (defArgs (top 109)) (defBody (top 109)) (defScope (top 109)) [] [] (He.ga K "_law_memory_drawn") fd := T.t.d.def_ 45 (d := ⟨("_law_memory_drawn", none), "_law_memory_drawn", "_law_memory_drawn", defArgs (top 109), defBody (top 109), defScope (top 109), [], []⟩)
theorem Txt.f_law_plain_first (T : Txt w K mg base) : ∃ fd, FunD K "_law_plain_first" "_law_plain_first" (defArgs (top 110)) (defBody (top 110)) (defScope (top 110)) [] [] (He.ga K "_law_plain_first") fd := T.t.d.def_ 46 (d := ⟨("_law_plain_first", none), "_law_plain_first", "_law_plain_first", defArgs (top 110), defBody (top 110), defScope (top 110), [], []⟩)
theorem Txt.f_law_reckoned (T : Txt w K mg base) : ∃ fd, FunD K "_law_reckoned" "_law_reckoned" (defArgs (top 111)) (defBody (top 111)) (defScope (top 111)) [] [] (He.ga K "_law_reckoned") fd := T.t.d.def_ 47 (d := ⟨("_law_reckoned", none), "_law_reckoned", "_law_reckoned", defArgs (top 111), defBody (top 111), defScope (top 111), [], []⟩)
theorem Txt.f_law_special (T : Txt w K mg base) : ∃ fd, FunD K "_law_special" "_law_special" (defArgs (top 112)) (defBody (top 112)) (defScope (top 112)) [] [] (He.ga K "_law_special") fd := T.t.d.def_ 48 (d := ⟨("_law_special", none), "_law_special", "_law_special", defArgs (top 112), defBody (top 112), defScope (top 112), [], []⟩)
theorem Txt.f_law_plain_step (T : Txt w K mg base) : ∃ fd, FunD K "_law_plain_step" "_law_plain_step" (defArgs (top 113)) (defBody (top 113)) (defScope (top 113)) [] [] (He.ga K "_law_plain_step") fd := T.t.d.def_ 49 (d := ⟨("_law_plain_step", none), "_law_plain_step", "_law_plain_step", defArgs (top 113), defBody (top 113), defScope (top 113), [], []⟩)
theorem Txt.f_law_formula_drawn (T : Txt w K mg base) : ∃ fd, FunD K "_law_formula_drawn" "_law_formula_drawn" (defArgs (top 114)) (defBody (top 114)) (defScope (top 114)) [] [] (He.ga K "_law_formula_drawn") fd := T.t.d.def_ 50 (d := ⟨("_law_formula_drawn", none), "_law_formula_drawn", "_law_formula_drawn", defArgs (top 114), defBody (top 114), defScope (top 114), [], []⟩)
theorem Txt.f_law_valued (T : Txt w K mg base) : ∃ fd, FunD K "_law_valued" "_law_valued" (defArgs (top 115)) (defBody (top 115)) (defScope (top 115)) [] [] (He.ga K "_law_valued") fd := T.t.d.def_ 51 (d := ⟨("_law_valued", none), "_law_valued", "_law_valued", defArgs (top 115), defBody (top 115), defScope (top 115), [], []⟩)
theorem Txt.f_law_value (T : Txt w K mg base) : ∃ fd, FunD K "_law_value" "_law_value" (defArgs (top 116)) (defBody (top 116)) (defScope (top 116)) [] [] (He.ga K "_law_value") fd := T.t.d.def_ 52 (d := ⟨("_law_value", none), "_law_value", "_law_value", defArgs (top 116), defBody (top 116), defScope (top 116), [], []⟩)
theorem Txt.f_law_told (T : Txt w K mg base) : ∃ fd, FunD K "_law_told" "_law_told" (defArgs (top 117)) (defBody (top 117)) (defScope (top 117)) [] [] (He.ga K "_law_told") fd := T.t.d.def_ 53 (d := ⟨("_law_told", none), "_law_told", "_law_told", defArgs (top 117), defBody (top 117), defScope (top 117), [], []⟩)
theorem Txt.f_law_right (T : Txt w K mg base) : ∃ fd, FunD K "_law_right" "_law_right" (defArgs (top 118)) (defBody (top 118)) (defScope (top 118)) [] [] (He.ga K "_law_right") fd := T.t.d.def_ 54 (d := ⟨("_law_right", none), "_law_right", "_law_right", defArgs (top 118), defBody (top 118), defScope (top 118), [], []⟩)
theorem Txt.f_law (T : Txt w K mg base) : ∃ fd, FunD K "law" "law" (defArgs (top 119)) (defBody (top 119)) (defScope (top 119)) [] [] (He.ga K "law") fd := T.t.d.def_ 55 (d := ⟨("law", none), "law", "law", defArgs (top 119), defBody (top 119), defScope (top 119), [], []⟩)
theorem Txt.f_Shape_init (T : Txt w K mg base) : ∃ fd, FunD K "__init__" "Shape.__init__" (defArgs (inClass (top 42) 1)) (defBody (inClass (top 42) 1)) (defScope (inClass (top 42) 1)) [] [] (He.ma K (He.ga K "Shape") "__init__") fd := T.t.d.def_ 56 (d := ⟨("Shape", some "__init__"), "__init__", "Shape.__init__", defArgs (inClass (top 42) 1), defBody (inClass (top 42) 1), defScope (inClass (top 42) 1), [], []⟩)
theorem Txt.f_KnownFields_init (T : Txt w K mg base) : ∃ fd, FunD K "__init__" "KnownFields.__init__" (defArgs (inClass (top 95) 1)) (defBody (inClass (top 95) 1)) (defScope (inClass (top 95) 1)) [] [] (He.ma K (He.ga K "KnownFields") "__init__") fd := T.t.d.def_ 57 (d := ⟨("KnownFields", some "__init__"), "__init__", "KnownFields.__init__", defArgs (inClass (top 95) 1), defBody (inClass (top 95) 1), defScope (inClass (top 95) 1), [], []⟩)
theorem Txt.f_Plain_init (T : Txt w K mg base) : ∃ fd, FunD K "__init__" "Plain.__init__" (defArgs (inClass (top 96) 1)) (defBody (inClass (top 96) 1)) (defScope (inClass (top 96) 1)) [] [("pc", .int 0), ("registers", .non), ("memory", .non), ("saved", .int 0), ("allowed", .bl false), ("ended", .non), ("outputs", .ref (outsAt K))] (He.ma K (He.ga K "Plain") "__init__") fd := T.t.d.def_ 58 (d := ⟨("Plain", some "__init__"), "__init__", "Plain.__init__", defArgs (inClass (top 96) 1), defBody (inClass (top 96) 1), defScope (inClass (top 96) 1), [], [("pc", .int 0), ("registers", .non), ("memory", .non), ("saved", .int 0), ("allowed", .bl false), ("ended", .non), ("outputs", .adr outsAt)]⟩)
theorem Txt.f_Plain_run (T : Txt w K mg base) : ∃ fd, FunD K "run" "Plain.run" (defArgs (inClass (top 96) 13)) (defBody (inClass (top 96) 13)) (defScope (inClass (top 96) 13)) [.ref (He.dflAt ("Plain", some "run") 0 K)] [] (He.ma K (He.ga K "Plain") "run") fd := T.t.d.def_ 59 (d := ⟨("Plain", some "run"), "run", "Plain.run", defArgs (inClass (top 96) 13), defBody (inClass (top 96) 13), defScope (inClass (top 96) 13), [.adr (He.dflAt ("Plain", some "run") 0)], []⟩)
theorem Txt.g_registers (T : Txt w K mg base) : ∃ fd, FunD K "registers" "Plain.registers" (defArgs (inClass (top 96) 5)) (defBody (inClass (top 96) 5)) (defScope (inClass (top 96) 5)) [] [] (gtOf "registers" K) fd := T.g ⟨gtOf "registers", "registers", "Plain.registers", defArgs (inClass (top 96) 5), defBody (inClass (top 96) 5), defScope (inClass (top 96) 5)⟩ (List.mem_of_getElem? (i := 0) rfl)
theorem Txt.g_memory (T : Txt w K mg base) : ∃ fd, FunD K "memory" "Plain.memory" (defArgs (inClass (top 96) 6)) (defBody (inClass (top 96) 6)) (defScope (inClass (top 96) 6)) [] [] (gtOf "memory" K) fd := T.g ⟨gtOf "memory", "memory", "Plain.memory", defArgs (inClass (top 96) 6), defBody (inClass (top 96) 6), defScope (inClass (top 96) 6)⟩ (List.mem_of_getElem? (i := 1) rfl)
theorem Txt.g_ended (T : Txt w K mg base) : ∃ fd, FunD K "ended" "Plain.ended" (defArgs (inClass (top 96) 9)) (defBody (inClass (top 96) 9)) (defScope (inClass (top 96) 9)) [] [] (gtOf "ended" K) fd := T.g ⟨gtOf "ended", "ended", "Plain.ended", defArgs (inClass (top 96) 9), defBody (inClass (top 96) 9), defScope (inClass (top 96) 9)⟩ (List.mem_of_getElem? (i := 2) rfl)
theorem Txt.g_outputs (T : Txt w K mg base) : ∃ fd, FunD K "outputs" "Plain.outputs" (defArgs (inClass (top 96) 10)) (defBody (inClass (top 96) 10)) (defScope (inClass (top 96) 10)) [] [] (gtOf "outputs" K) fd := T.g ⟨gtOf "outputs", "outputs", "Plain.outputs", defArgs (inClass (top 96) 10), defBody (inClass (top 96) 10), defScope (inClass (top 96) 10)⟩ (List.mem_of_getElem? (i := 3) rfl)
theorem Txt.g_allowed (T : Txt w K mg base) : ∃ fd, FunD K "allowed" "Plain.allowed" (defArgs (inClass (top 96) 8)) (defBody (inClass (top 96) 8)) (defScope (inClass (top 96) 8)) [] [] (gtOf "allowed" K) fd := T.g ⟨gtOf "allowed", "allowed", "Plain.allowed", defArgs (inClass (top 96) 8), defBody (inClass (top 96) 8), defScope (inClass (top 96) 8)⟩ (List.mem_of_getElem? (i := 4) rfl)
theorem Txt.x_Refused (T : Txt w K mg base) {P : Program} (p : PrO P) : SupX P K "Refused.__init__" "reason" "ArithmeticError" "ArithmeticError.__new__" "ArithmeticError.__init__" [.type "ArithmeticError", .type "Exception", .type "BaseException", .type "object"] (defArgs (inClass (top 11) 0)) (defBody (inClass (top 11) 0)) (defScope (inClass (top 11) 0)) (He.ga K "Refused") (He.ma K (He.ga K "Refused") "__init__") ∧ XfC K (He.ga K "Refused") := T.e ⟨"Refused", "reason", "Refused.__init__", "ArithmeticError", "ArithmeticError.__new__", "ArithmeticError.__init__", [.type "ArithmeticError", .type "Exception", .type "BaseException", .type "object"], defArgs (inClass (top 11) 0), defBody (inClass (top 11) 0), defScope (inClass (top 11) 0)⟩ (List.mem_of_getElem? (i := 0) rfl) P p.file p.sup
theorem Txt.x_TooMany (T : Txt w K mg base) {P : Program} (p : PrO P) : SupX P K "TooMany.__init__" "limit" "OverflowError" "OverflowError.__new__" "OverflowError.__init__" [.type "OverflowError", .type "ArithmeticError", .type "Exception", .type "BaseException", .type "object"] (defArgs (inClass (top 10) 0)) (defBody (inClass (top 10) 0)) (defScope (inClass (top 10) 0)) (He.ga K "TooMany") (He.ma K (He.ga K "TooMany") "__init__") ∧ XfC K (He.ga K "TooMany") := T.e ⟨"TooMany", "limit", "TooMany.__init__", "OverflowError", "OverflowError.__new__", "OverflowError.__init__", [.type "OverflowError", .type "ArithmeticError", .type "Exception", .type "BaseException", .type "object"], defArgs (inClass (top 10) 0), defBody (inClass (top 10) 0), defScope (inClass (top 10) 0)⟩ (List.mem_of_getElem? (i := 1) rfl) P p.file p.sup
theorem isAt_ok {a : Option (Option Value)} {b : Value} (h : isAt a b = true) : a = some (some b) := of_decide_eq_true h
theorem scls_ok {c : Str} (h : sclsB K c = true) : SlX.SCls K (He.ga K c) ∧ SlX.SIsi K (He.ga K c) := by
  unfold sclsB at h
  simp only [Bool.and_eq_true, decide_eq_true_eq] at h
  obtain ⟨h1, h2, h3, h4, h5, h6, h7, h8⟩ := h
  exact ⟨⟨h1, h2, h3, isAt_ok h4⟩, ⟨isAt_ok h5, isAt_ok h6, h7, h8⟩⟩
theorem slot_ok {c f : Str} {i : Nat} (h : slotB K c f i = true) (hi : i < 1000) : SlX.Slot1 K (He.ga K c) f (He.ma K (He.ga K c) f) i := by
  unfold slotB at h
  simp only [Bool.and_eq_true, decide_eq_true_eq] at h
  obtain ⟨h1, h2, h3, h4, h5⟩ := h
  exact ⟨isAt_ok h1, isAt_ok h2, h3, h4, h5, hi⟩
/-- the property f of Plain, its getter -/
structure PropP (K : PySem.W.Frag) (f : Str) : Prop where
  at_ : PySem.W.findIn K (.ref (He.ga K "Plain")) f = some (some (.ref (He.ma K (He.ga K "Plain") f)))
  get : PySem.W.specialIn K (.ref (He.ma K (He.ga K "Plain") f)) "__get__" = some (some (.builtin "property.__get__"))
  tk : PySem.W.takesIn K (.ref (He.ma K (He.ga K "Plain") f)) = some true
  rc : ∃ rest, PySem.W.recIn K (He.ma K (He.ga K "Plain") f) "property" = some (.ref (gtOf f K) :: rest)
theorem prop_ok {f : Str} (h : propB K f = true) : PropP K f := by
  unfold propB at h
  simp only [Bool.and_eq_true, decide_eq_true_eq] at h
  obtain ⟨h1, h2, h3, h4⟩ := h
  refine ⟨isAt_ok h1, isAt_ok h2, h3, ?_⟩
  unfold gtOf
  cases q : PySem.W.recIn K (He.ma K (He.ga K "Plain") f) "property" with
  | none => rw [q] at h4; cases h4
  | some l =>
    rw [q] at h4
    cases l with
    | nil => cases h4
    | cons u r =>
      cases u with
      | ref a => exact ⟨r, rfl⟩
      | _ => cases h4
theorem tupAt_ok {a : Addr} {vs : List He.Dv} (h : tupAt K a vs = true) (H : Hp) : SqT K H a (vs.map (He.Dv.v K)) := by
  unfold tupAt at h
  cases q : K.lookup a with
  | none => rw [q] at h; cases h
  | some o =>
    rw [q] at h
    obtain ⟨oc, od, dt, osl⟩ := o
    cases oc with
    | type c =>
      cases dt with
      | seq its n =>
        simp only [Bool.and_eq_true, decide_eq_true_eq, beq_iff_eq] at h
        obtain ⟨h1, h2, h3⟩ := h
        subst h1
        exact .inr ⟨_, its, n, q, rfl, rfl, Nat.le_trans h2 (by decide), He.relAll_ok h3⟩
      | _ => cases h
    | _ => cases h
theorem Txt.exs (T : Txt w K mg base) : He.tupB K "REGISTER_NUMBERS" [.int 2, .int 4, .int 8] = true ∧ He.tupB K "PLAIN_OPS" [.str "add", .str "sub", .str "and", .str "or", .str "xor", .str "less", .str "left", .str "right"] = true ∧ He.tupB K "END" [.str "end"] = true ∧ He.tupB K "WORD_FAULT" [.str "fault", .str "word"] = true ∧ He.tupB K "DIVIDE_FAULT" [.str "fault", .str "divide"] = true ∧ He.valsB K (He.ga K "LONG_KINDS") [("times", .int 4), ("part", .int 5), ("rest", .int 6)] = true ∧ sclsB K "Shape" = true ∧ slotB K "Shape" "own_registers" 0 = true ∧ slotB K "Shape" "own_width" 1 = true ∧ sclsB K "KnownFields" = true ∧ slotB K "KnownFields" "own_told" 0 = true ∧ sclsB K "Plain" = true ∧ slotB K "Plain" "own_allowed" 0 = true ∧ slotB K "Plain" "own_ended" 1 = true ∧ slotB K "Plain" "own_memory" 2 = true ∧ slotB K "Plain" "own_outputs" 3 = true ∧ slotB K "Plain" "own_pc" 4 = true ∧ slotB K "Plain" "own_program" 5 = true ∧ slotB K "Plain" "own_registers" 6 = true ∧ slotB K "Plain" "own_saved" 7 = true ∧ slotB K "Plain" "own_shape" 8 = true ∧ propB K "registers" = true ∧ propB K "memory" = true ∧ propB K "ended" = true ∧ propB K "outputs" = true ∧ propB K "allowed" = true ∧ decide (PySem.W.kitOne K (.ref (He.ga K "Shape")) (.ref (He.ga K "Shape")) = some true) = true ∧ decide (PySem.W.kitOne K (.ref (He.ga K "Shape")) (.ref (He.ga K "KnownFields")) = some false) = true ∧ decide (PySem.W.kitOne K (.ref (He.ga K "KnownFields")) (.ref (He.ga K "KnownFields")) = some true) = true ∧ ((["add", "sub", "and", "or", "xor", "less", "left", "right"] : List PySem.Str).all fun x => decide (PySem.W.nsIn K (He.ga K "LONG_KINDS") x = some none)) = true ∧ tupNB K "PLAIN_OPS" = true ∧ tupAt K (He.dflAt ("Plain", some "run") 0 K) [] = true ∧ tupAt K (outsAt K) [] = true ∧ decide ((He.cT K ("law", none)).2 ≠ (He.cT K ("_law_right", none)).2) = true := by
  have h := T.more
  unfold ex at h
  simpa only [Bool.and_eq_true] using h
theorem Txt.t_REGISTER_NUMBERS (T : Txt w K mg base) (H : Hp) : SqT K H (He.ga K "REGISTER_NUMBERS") [.int 2, .int 4, .int 8] := He.tupB_ok (T.exs.1) H
theorem Txt.t_PLAIN_OPS (T : Txt w K mg base) (H : Hp) : SqT K H (He.ga K "PLAIN_OPS") [.str "add", .str "sub", .str "and", .str "or", .str "xor", .str "less", .str "left", .str "right"] := He.tupB_ok (T.exs.2.1) H
theorem Txt.t_END (T : Txt w K mg base) (H : Hp) : SqT K H (He.ga K "END") [.str "end"] := He.tupB_ok (T.exs.2.2.1) H
theorem Txt.t_WORD_FAULT (T : Txt w K mg base) (H : Hp) : SqT K H (He.ga K "WORD_FAULT") [.str "fault", .str "word"] := He.tupB_ok (T.exs.2.2.2.1) H
theorem Txt.t_DIVIDE_FAULT (T : Txt w K mg base) (H : Hp) : SqT K H (He.ga K "DIVIDE_FAULT") [.str "fault", .str "divide"] := He.tupB_ok (T.exs.2.2.2.2.1) H
theorem Txt.lk (T : Txt w K mg base) {q : PySem.Str × He.Dv} (h : q ∈ ([("times", .int 4), ("part", .int 5), ("rest", .int 6)] : List (PySem.Str × He.Dv))) : ∃ u, PySem.W.nsIn K (He.ga K "LONG_KINDS") q.1 = some (some u) ∧ RelV (q.2.v K) u := He.valsB_ok (T.exs.2.2.2.2.2.1) h
theorem Txt.sc_Shape (T : Txt w K mg base) : SlX.SCls K (He.ga K "Shape") := (scls_ok (T.exs.2.2.2.2.2.2.1)).1
theorem Txt.si_Shape (T : Txt w K mg base) : SlX.SIsi K (He.ga K "Shape") := (scls_ok (T.exs.2.2.2.2.2.2.1)).2
theorem Txt.s_Shape_own_registers (T : Txt w K mg base) : SlX.Slot1 K (He.ga K "Shape") "own_registers" (He.ma K (He.ga K "Shape") "own_registers") 0 := slot_ok (T.exs.2.2.2.2.2.2.2.1) (by decide)
theorem Txt.s_Shape_own_width (T : Txt w K mg base) : SlX.Slot1 K (He.ga K "Shape") "own_width" (He.ma K (He.ga K "Shape") "own_width") 1 := slot_ok (T.exs.2.2.2.2.2.2.2.2.1) (by decide)
theorem Txt.sc_KnownFields (T : Txt w K mg base) : SlX.SCls K (He.ga K "KnownFields") := (scls_ok (T.exs.2.2.2.2.2.2.2.2.2.1)).1
theorem Txt.si_KnownFields (T : Txt w K mg base) : SlX.SIsi K (He.ga K "KnownFields") := (scls_ok (T.exs.2.2.2.2.2.2.2.2.2.1)).2
theorem Txt.s_KnownFields_own_told (T : Txt w K mg base) : SlX.Slot1 K (He.ga K "KnownFields") "own_told" (He.ma K (He.ga K "KnownFields") "own_told") 0 := slot_ok (T.exs.2.2.2.2.2.2.2.2.2.2.1) (by decide)
theorem Txt.sc_Plain (T : Txt w K mg base) : SlX.SCls K (He.ga K "Plain") := (scls_ok (T.exs.2.2.2.2.2.2.2.2.2.2.2.1)).1
theorem Txt.si_Plain (T : Txt w K mg base) : SlX.SIsi K (He.ga K "Plain") := (scls_ok (T.exs.2.2.2.2.2.2.2.2.2.2.2.1)).2
theorem Txt.s_Plain_own_allowed (T : Txt w K mg base) : SlX.Slot1 K (He.ga K "Plain") "own_allowed" (He.ma K (He.ga K "Plain") "own_allowed") 0 := slot_ok (T.exs.2.2.2.2.2.2.2.2.2.2.2.2.1) (by decide)
theorem Txt.s_Plain_own_ended (T : Txt w K mg base) : SlX.Slot1 K (He.ga K "Plain") "own_ended" (He.ma K (He.ga K "Plain") "own_ended") 1 := slot_ok (T.exs.2.2.2.2.2.2.2.2.2.2.2.2.2.1) (by decide)
theorem Txt.s_Plain_own_memory (T : Txt w K mg base) : SlX.Slot1 K (He.ga K "Plain") "own_memory" (He.ma K (He.ga K "Plain") "own_memory") 2 := slot_ok (T.exs.2.2.2.2.2.2.2.2.2.2.2.2.2.2.1) (by decide)
theorem Txt.s_Plain_own_outputs (T : Txt w K mg base) : SlX.Slot1 K (He.ga K "Plain") "own_outputs" (He.ma K (He.ga K "Plain") "own_outputs") 3 := slot_ok (T.exs.2.2.2.2.2.2.2.2.2.2.2.2.2.2.2.1) (by decide)
theorem Txt.s_Plain_own_pc (T : Txt w K mg base) : SlX.Slot1 K (He.ga K "Plain") "own_pc" (He.ma K (He.ga K "Plain") "own_pc") 4 := slot_ok (T.exs.2.2.2.2.2.2.2.2.2.2.2.2.2.2.2.2.1) (by decide)
theorem Txt.s_Plain_own_program (T : Txt w K mg base) : SlX.Slot1 K (He.ga K "Plain") "own_program" (He.ma K (He.ga K "Plain") "own_program") 5 := slot_ok (T.exs.2.2.2.2.2.2.2.2.2.2.2.2.2.2.2.2.2.1) (by decide)
theorem Txt.s_Plain_own_registers (T : Txt w K mg base) : SlX.Slot1 K (He.ga K "Plain") "own_registers" (He.ma K (He.ga K "Plain") "own_registers") 6 := slot_ok (T.exs.2.2.2.2.2.2.2.2.2.2.2.2.2.2.2.2.2.2.1) (by decide)
theorem Txt.s_Plain_own_saved (T : Txt w K mg base) : SlX.Slot1 K (He.ga K "Plain") "own_saved" (He.ma K (He.ga K "Plain") "own_saved") 7 := slot_ok (T.exs.2.2.2.2.2.2.2.2.2.2.2.2.2.2.2.2.2.2.2.1) (by decide)
theorem Txt.s_Plain_own_shape (T : Txt w K mg base) : SlX.Slot1 K (He.ga K "Plain") "own_shape" (He.ma K (He.ga K "Plain") "own_shape") 8 := slot_ok (T.exs.2.2.2.2.2.2.2.2.2.2.2.2.2.2.2.2.2.2.2.2.1) (by decide)
theorem Txt.p_registers (T : Txt w K mg base) : PropP K "registers" := prop_ok (T.exs.2.2.2.2.2.2.2.2.2.2.2.2.2.2.2.2.2.2.2.2.2.1)
theorem Txt.p_memory (T : Txt w K mg base) : PropP K "memory" := prop_ok (T.exs.2.2.2.2.2.2.2.2.2.2.2.2.2.2.2.2.2.2.2.2.2.2.1)
theorem Txt.p_ended (T : Txt w K mg base) : PropP K "ended" := prop_ok (T.exs.2.2.2.2.2.2.2.2.2.2.2.2.2.2.2.2.2.2.2.2.2.2.2.1)
theorem Txt.p_outputs (T : Txt w K mg base) : PropP K "outputs" := prop_ok (T.exs.2.2.2.2.2.2.2.2.2.2.2.2.2.2.2.2.2.2.2.2.2.2.2.2.1)
theorem Txt.p_allowed (T : Txt w K mg base) : PropP K "allowed" := prop_ok (T.exs.2.2.2.2.2.2.2.2.2.2.2.2.2.2.2.2.2.2.2.2.2.2.2.2.2.1)
theorem Txt.k_Shape_Shape (T : Txt w K mg base) : PySem.W.kitOne K (.ref (He.ga K "Shape")) (.ref (He.ga K "Shape")) = some true := of_decide_eq_true (T.exs.2.2.2.2.2.2.2.2.2.2.2.2.2.2.2.2.2.2.2.2.2.2.2.2.2.2.1)
theorem Txt.k_Shape_KnownFields (T : Txt w K mg base) : PySem.W.kitOne K (.ref (He.ga K "Shape")) (.ref (He.ga K "KnownFields")) = some false := of_decide_eq_true (T.exs.2.2.2.2.2.2.2.2.2.2.2.2.2.2.2.2.2.2.2.2.2.2.2.2.2.2.2.1)
theorem Txt.k_KnownFields_KnownFields (T : Txt w K mg base) : PySem.W.kitOne K (.ref (He.ga K "KnownFields")) (.ref (He.ga K "KnownFields")) = some true := of_decide_eq_true (T.exs.2.2.2.2.2.2.2.2.2.2.2.2.2.2.2.2.2.2.2.2.2.2.2.2.2.2.2.2.1)
theorem Txt.lkn (T : Txt w K mg base) {x : PySem.Str} (h : x ∈ (["add", "sub", "and", "or", "xor", "less", "left", "right"] : List PySem.Str)) : PySem.W.nsIn K (He.ga K "LONG_KINDS") x = some none := of_decide_eq_true (List.all_eq_true.mp (T.exs.2.2.2.2.2.2.2.2.2.2.2.2.2.2.2.2.2.2.2.2.2.2.2.2.2.2.2.2.2.1) x h)
theorem Txt.tn_PLAIN_OPS (T : Txt w K mg base) : ∃ o, K.lookup (He.ga K "PLAIN_OPS") = some o ∧ o.cls = .type "tuple" ∧ o.dict = none := by
  have h := T.exs.2.2.2.2.2.2.2.2.2.2.2.2.2.2.2.2.2.2.2.2.2.2.2.2.2.2.2.2.2.2.1
  unfold tupNB at h
  cases q : K.lookup (He.ga K "PLAIN_OPS") with
  | none => rw [q] at h; cases h
  | some o =>
    rw [q] at h
    obtain ⟨oc, od, dt, osl⟩ := o
    cases oc with
    | type c =>
      cases od with
      | none => exact ⟨_, rfl, congrArg Value.type (beq_iff_eq.mp h), rfl⟩
      | some d => cases h
    | _ => cases h
theorem Txt.t_bells (T : Txt w K mg base) (H : Hp) : SqT K H (He.dflAt ("Plain", some "run") 0 K) [] := tupAt_ok (T.exs.2.2.2.2.2.2.2.2.2.2.2.2.2.2.2.2.2.2.2.2.2.2.2.2.2.2.2.2.2.2.2.1) H
theorem Txt.t_outs (T : Txt w K mg base) (H : Hp) : SqT K H (outsAt K) [] := tupAt_ok (T.exs.2.2.2.2.2.2.2.2.2.2.2.2.2.2.2.2.2.2.2.2.2.2.2.2.2.2.2.2.2.2.2.2.1) H
theorem Txt.tne (T : Txt w K mg base) : (He.cT K ("law", none)).2 ≠ (He.cT K ("_law_right", none)).2 := of_decide_eq_true (T.exs.2.2.2.2.2.2.2.2.2.2.2.2.2.2.2.2.2.2.2.2.2.2.2.2.2.2.2.2.2.2.2.2.2)
theorem Txt.lkt (T : Txt w K mg base) : ∃ es n, KDict K w (He.ga K "LONG_KINDS") es n := T.t.tab 0 (t := ((fun K => He.ga K "LONG_KINDS"), ["times", "part", "rest"]))
end
end K83
end
end
section
set_option maxRecDepth 100000
set_option maxHeartbeats 0
noncomputable section
namespace K83
open PySem PySem.Spec PyProof.Rows L2
abbrev hk : PySem.W.Hook := hook as fa fn ts tf gs xs fileK ex
def ob (s : PySem.W.SharedT) : Al := look as fa fn ts tf gs xs fileK ex (HandSHeadRun.getT s)
theorem ob_eq (s : PySem.W.SharedT) : ob s = hk.obs s.abs := look_eq (HandSHeadRun.getT_eq s)
abbrev qv : Program := PySem.W.view R.prog [119]
def tr (b : Bool) (w : World) : World := w.withFollow "special-get-raises" b
abbrev endOf (w : World) (os : OsState) : Option PySem.W.SharedT := HandSHeadRun.endF (HandSHeadRun.stepQ (HandSHeadRun.denQ HandSHeadRun.tabQ) R.prog w) 20000 R.prog w os
theorem runF (w : World) : HandSHeadRun.RunEq R qv hk ob 20000 nms (tr false w) := by
  intro os
  kernel_rfl
theorem runT (w : World) : HandSHeadRun.RunEq R qv hk ob 20000 nms (tr true w) := by
  intro os
  kernel_rfl
theorem run (w : World) : HandSHeadRun.RunEq R qv hk ob 20000 nms w := PySem.W.byRow2 "special-get-raises" (P := fun w => HandSHeadRun.RunEq R qv hk ob 20000 nms w) runF runT w
end K83
end
end
section
set_option maxRecDepth 100000
set_option maxHeartbeats 4000000
namespace K83
open PySem PySem.Spec PyProof.Rows L2

/-! ## short words for the walks -/
section
variable {P : Program} {w : World} {K : PySem.W.Frag} {mg : Str → Option Value} {base : Heap}
/-- a promise by an argument x: what it asks, what it gives -/
def spX {α : Type} (arg : α → List V → Hp → Prop) (res : α → Hp → V → Hp → Prop) : Sp := fun vs H Q _ => ∃ x, arg x vs H ∧ ∀ v H', res x H v H' → Q v H'
/-- .. all that was tracked stays -/
def spS {α : Type} (arg : α → List V → Hp → Prop) (res : α → V → Hp → Prop) : Sp := spX arg fun x H v H' => Same H H' ∧ res x v H'
theorem a_spX {α : Type} {arg : α → List V → Hp → Prop} {res : α → Hp → V → Hp → Prop} {vs : List V} {H : Hp} {Q : VK} {E : XK} (x : α) (ha : arg x vs H) (h : ∀ v H', res x H v H' → Q v H') : spX arg res vs H Q E := ⟨x, ha, h⟩
theorem a_spS {α : Type} {arg : α → List V → Hp → Prop} {res : α → V → Hp → Prop} {vs : List V} {H : Hp} {Q : VK} {E : XK} (x : α) (ha : arg x vs H) (h : ∀ v H', Same H H' → res x v H' → Q v H') : spS arg res vs H Q E :=
  ⟨x, ha, fun v H' z => h v H' z.1 z.2⟩
/-- a def of the text by its body -/
theorem cal_of {x : Str} {st : Stmt} {f : Addr} {N ps : List Str} {k : Nat} {sp : Sp} (F : ∃ fd, FunD K x x (defArgs st) (defBody st) (defScope st) [] [] f fd) (m : mg x = some (.ref f)) (S : FnScope N ps (defScope st)) (len : ∀ vs H Q E, sp vs H Q E → vs.length = ps.length)
    (hb : ∀ (kV doc pm : Value) (an : Option Addr) (cdv ct : Value) (us : List Value), us.length = ps.length → bindArgs (PySem.W.fnOf x x (defArgs st) (defBody st) (defScope st) .none kV doc pm an cdv ct) ⟨us, []⟩ = pure (ps.zip us))
    (hbody : ∀ (cdv : Value) (A : Around) (outer : List Env) (s : Shared) (H : Hp) (vs : List V) (Q : VK) (E : XK), Room k (A.deeper (envOfC x (defScope st) s.heap.objs.size f cdv)) → sp vs H Q E →
      ∃ t, PSs (cxOf C8.CX0 P w K mg base N x (defScope st) f cdv A outer s H E).nox (defBody st) t ∧ t ⟨fun _ H' => Q .non H', Q, fun _ _ => False, fun _ _ => False⟩ (start N vs) H) : C8.Cal P w K mg base (k + 1) x sp [] := by
  obtain ⟨fd, F⟩ := F
  refine ⟨f, fd, ps, [], F.ok S len fun cdv A outer s H vs Q E hr h => ?_, m, F.kp, F.bindsN hb, .nil⟩
  obtain ⟨t, a, b⟩ := hbody cdv A outer s H vs Q E hr h
  exact ⟨t, a.nox, b⟩
/-- a method or a getter, by its address -/
theorem fnr_of {x q : Str} {st : Stmt} {f : Addr} {N ps : List Str} {k : Nat} {sp : Sp} (F : ∃ fd, FunD K x q (defArgs st) (defBody st) (defScope st) [] [] f fd) (S : FnScope N ps (defScope st)) (len : ∀ vs H Q E, sp vs H Q E → vs.length = ps.length)
    (hb : ∀ (kV doc pm : Value) (an : Option Addr) (cdv ct : Value) (us : List Value), us.length = ps.length → bindArgs (PySem.W.fnOf x q (defArgs st) (defBody st) (defScope st) .none kV doc pm an cdv ct) ⟨us, []⟩ = pure (ps.zip us))
    (hbody : ∀ (cdv : Value) (A : Around) (outer : List Env) (s : Shared) (H : Hp) (vs : List V) (Q : VK) (E : XK), Room k (A.deeper (envOfC q (defScope st) s.heap.objs.size f cdv)) → sp vs H Q E →
      ∃ t, PSs (cxOf C8.CX0 P w K mg base N q (defScope st) f cdv A outer s H E).nox (defBody st) t ∧ t ⟨fun _ H' => Q .non H', Q, fun _ _ => False, fun _ _ => False⟩ (start N vs) H) : ∃ fd, FnOk P w K mg base C8.CX0 (k + 1) f fd ps sp ∧ L2.Binds K fd ps [] := by
  obtain ⟨fd, F⟩ := F
  refine ⟨fd, F.ok S len fun cdv A outer s H vs Q E hr h => ?_, F.bindsN hb⟩
  obtain ⟨t, a, b⟩ := hbody cdv A outer s H vs Q E hr h
  exact ⟨t, a.nox, b⟩
end
/-- a new object holds o, told as a heap that is the old one and more -/
def newO (o : HO) (R : V → Hp → Prop) (H : Hp) : Prop := ∀ p, H p = none → R (.ref p) (upd H p o)
/-! ### readings, one step each -/
section
variable {K : PySem.W.Frag} {n : L2.St → Hp → Prop} {r : VK} {bk ct : L2.St → Hp → Prop} {σ : L2.St} {H : Hp} {Q : VK} {D : Ends}
theorem a_seq {t u : TS} (h : t ⟨u ⟨n, r, bk, ct⟩, r, bk, ct⟩ σ H) : tSeq t u ⟨n, r, bk, ct⟩ σ H := h
theorem a_next (h : n σ H) : tNext ⟨n, r, bk, ct⟩ σ H := h
theorem a_ret {te : TE} (h : te σ H r) : tRet te ⟨n, r, bk, ct⟩ σ H := h
theorem a_retN (h : r .non H) : tRetN ⟨n, r, bk, ct⟩ σ H := h
theorem a_drop {te : TE} (h : te σ H fun _ H1 => n σ H1) : tDrop te ⟨n, r, bk, ct⟩ σ H := h
theorem a_if {c : TT} {t u : TS} (h : c σ H fun b H1 => if b = true then t D σ H1 else u D σ H1) : tIfS c t u D σ H := h
theorem a_asg {te : TE} {g : TG} (h : te σ H fun x H1 => g x σ H1 n) : tAsg te g ⟨n, r, bk, ct⟩ σ H := h
theorem a_var {i : Nat} {v : V} (e : σ[i]? = some (some v)) (h : Q v H) : tVar i σ H Q := ⟨v, e, h⟩
theorem a_varX {i : Nat} (h : ∃ v, σ[i]? = some (some v) ∧ Q v H) : tVar i σ H Q := h
theorem a_augX {i : Nat} {te : TE} {ti : TIp} (h : ∃ x, σ[i]? = some (some x) ∧ te σ H fun y H1 => ti x y H1 fun z H2 => n (σ.set i (some z)) H2) : tAug i te ti ⟨n, r, bk, ct⟩ σ H := h
theorem a_c {v : V} (h : Q v H) : tC v σ H Q := h
theorem a_op {f : R2} {ta tb : TE} (h : ta σ H fun x H1 => tb σ H1 fun y H2 => f x y H2 Q) : tOp f ta tb σ H Q := h
theorem a_un {f : V → Hp → VK → Prop} {ta : TE} (h : ta σ H fun x H1 => f x H1 Q) : tUn f ta σ H Q := h
theorem a_rI0 {g : Int → Int → V} {i j : Int} (h : Q (g i j) H) : rI0 g (.int i) (.int j) H Q := ⟨i, j, rfl, rfl, h⟩
theorem a_rI {C : Int → Int → Prop} {g : Int → Int → V} {i j : Int} (c : C i j) (h : Q (g i j) H) : rI C g (.int i) (.int j) H Q := ⟨i, j, rfl, rfl, c, h⟩
theorem a_rU {g : Int → V} {i : Int} (h : Q (g i) H) : rU g (.int i) H Q := ⟨i, rfl, h⟩
theorem a_rEq {x y : V} (c : scal x y = true) (h : Q (.bl (decide (x = y))) H) : rEq x y H Q := ⟨c, h⟩
theorem a_rNe {x y : V} (c : scal x y = true) (h : Q (.bl (!decide (x = y))) H) : rNe x y H Q := ⟨c, h⟩
theorem a_eqI {i j : Int} (h : Q (.bl (decide (i = j))) H) : rEq (.int i) (.int j) H Q := ⟨rfl, by rw [dec_int]; exact h⟩
theorem a_neI {i j : Int} (h : Q (.bl (!decide (i = j))) H) : rNe (.int i) (.int j) H Q := ⟨rfl, by rw [dec_int]; exact h⟩
theorem a_eqS {i j : Str} (h : Q (.bl (decide (i = j))) H) : rEq (.str i) (.str j) H Q := ⟨rfl, by rw [dec_str]; exact h⟩
theorem a_neS {i j : Str} (h : Q (.bl (!decide (i = j))) H) : rNe (.str i) (.str j) H Q := ⟨rfl, by rw [dec_str]; exact h⟩
theorem a_test {t : TE} {R : Bool → Hp → Prop} (h : t σ H fun x H' => ∃ k, x = .bl k ∧ R k H') : tTest t σ H R := h
theorem a_tB {t : TE} {R : Bool → Hp → Prop} (h : t σ H fun x H' => ∃ k, x = .bl k ∧ R k H') : tB t σ H R := h
theorem a_bl {b : Bool} {R : Bool → Prop} (h : R b) : ∃ k, V.bl b = .bl k ∧ R k := ⟨b, rfl, h⟩
theorem a_int {i : Int} {R : Int → Prop} (h : R i) : ∃ k, V.int i = .int k ∧ R k := ⟨i, rfl, h⟩
theorem a_and {t u : TT} {R : Bool → Hp → Prop} (h : t σ H fun c H1 => if c = true then u σ H1 R else R false H1) : tAnd t u σ H R := h
theorem a_or {t u : TT} {R : Bool → Hp → Prop} (h : t σ H fun c H1 => if c = true then R true H1 else u σ H1 R) : tOr t u σ H R := h
theorem a_not {t : TT} {R : Bool → Hp → Prop} (h : t σ H fun c H1 => R (!c) H1) : tNot t σ H R := h
theorem a_andV {ta tb : TE} (h : ta σ H fun x H1 => ∃ c, x = .bl c ∧ if c = true then tb σ H1 Q else Q (.bl false) H1) : tAndV ta tb σ H Q := h
theorem a_orV {ta tb : TE} (h : ta σ H fun x H1 => ∃ c, x = .bl c ∧ if c = true then Q (.bl true) H1 else tb σ H1 Q) : tOrV ta tb σ H Q := h
theorem a_notV {ta : TE} (h : ta σ H fun x H1 => ∃ c, x = .bl c ∧ Q (.bl (!c)) H1) : tNotV ta σ H Q := h
theorem a_ifE {t : TT} {ta tb : TE} (h : t σ H fun c H1 => if c = true then ta σ H1 Q else tb σ H1 Q) : tIf t ta tb σ H Q := h
theorem a_chain {f g : R2} {ta tb tc : TE} (h : ta σ H fun x H1 => tb σ H1 fun y H2 => f x y H2 fun z H3 => ∃ k, z = .bl k ∧ (if k = true then tc σ H3 fun w' H4 => g y w' H4 Q else Q (.bl false) H3)) : tChain f g ta tb tc σ H Q := h
theorem a_call {sp : Sp} {dvs : List V} {E : XK} {t : TA} (h : t σ H fun vs H1 => sp (vs ++ dvs) H1 Q E) : tCall sp dvs E t σ H Q := h
theorem a_cb {f : List V → Hp → VK → Prop} {t : TA} (h : t σ H fun vs H1 => f vs H1 Q) : tCB f t σ H Q := h
theorem a_nil {R : List V → Hp → Prop} (h : R [] H) : tNil σ H R := h
theorem a_cons {ta : TE} {tr : TA} {R : List V → Hp → Prop} (h : ta σ H fun x H1 => tr σ H1 fun xs H2 => R (x :: xs) H2) : tCons ta tr σ H R := h
theorem a_star {te : TE} {t : TA} {R : List V → Hp → Prop} (h : te σ H fun x H1 => ∃ p xs, x = V.ref p ∧ (SqT K H1 p xs ∨ SqL K H1 p xs) ∧ t σ H1 fun ys H2 => R (xs ++ ys) H2) : StX.tStar K te t σ H R := h
theorem a_starT {p : Addr} {xs : List V} {H1 : Hp} {R : List V → Prop} (h : SqT K H1 p xs) (q : R xs) : ∃ p' xs', V.ref p = V.ref p' ∧ (SqT K H1 p' xs' ∨ SqL K H1 p' xs') ∧ R xs' := ⟨p, xs, rfl, .inl h, q⟩
theorem a_starL {p : Addr} {xs : List V} {H1 : Hp} {R : List V → Prop} (h : SqL K H1 p xs) (q : R xs) : ∃ p' xs', V.ref p = V.ref p' ∧ (SqT K H1 p' xs' ∨ SqL K H1 p' xs') ∧ R xs' := ⟨p, xs, rfl, .inr h, q⟩
theorem a_name {i : Nat} {v : V} {R : L2.St → Hp → Prop} (h : R (σ.set i (some v)) H) : gName i v σ H R := h
theorem a_nameX {i : Nat} {v : V} {R : L2.St → Hp → Prop} (h : ∃ σ', σ.set i (some v) = σ' ∧ R σ' H) : gName i v σ H R := by
  obtain ⟨σ', rfl, q⟩ := h
  exact q
theorem a_nrm {R : L2.St → Prop} (h : ∃ σ', σ = σ' ∧ R σ') : R σ := by
  obtain ⟨σ', rfl, q⟩ := h
  exact q
theorem a_parX {i j : Nat} {a b : V} {ys : List V} {R : L2.St → Hp → Prop} (e : ys = [a, b]) (h : ∃ σ', (σ.set i (some a)).set j (some b) = σ' ∧ R σ' H) : ∃ v w, ys = [v, w] ∧ R ((σ.set i (some v)).set j (some w)) H := by
  obtain ⟨σ', rfl, q⟩ := h
  exact ⟨a, b, e, q⟩
theorem a_gtup {m : Nat} {t : TGs} {a : Addr} {xs : List V} {R : L2.St → Hp → Prop} (e : SqT K H a xs) (l : xs.length = m) (h : t xs σ H R) : gTup K m t (.ref a) σ H R := ⟨a, xs, rfl, e, l, h⟩
theorem a_gcons {t : TG} {u : TGs} {v : V} {vs : List V} {R : L2.St → Hp → Prop} (h : t v σ H fun σ' H' => u vs σ' H' R) : gCons t u (v :: vs) σ H R := ⟨v, vs, rfl, h⟩
theorem a_gnil {R : L2.St → Hp → Prop} (h : R σ H) : gNil [] σ H R := ⟨rfl, h⟩
theorem a_gsub {ta ti : TE} {t : TSet} {v : V} {R : L2.St → Hp → Prop} (h : ta σ H fun o H1 => ti σ H1 fun i H2 => t o i v H2 fun H3 => R σ H3) : gSub ta ti t v σ H R := h
theorem a_par {i j : Nat} {ta : TA} (h : ta σ H fun vs H1 => ∃ v w, vs = [v, w] ∧ n ((σ.set i (some v)).set j (some w)) H1) : tPar i j ta ⟨n, r, bk, ct⟩ σ H := h
theorem a_par2 {a b : V} {R : V → V → Prop} (h : R a b) : ∃ v w, [a, b] = [v, w] ∧ R v w := ⟨a, b, rfl, h⟩
theorem a_aug {i : Nat} {te : TE} {ti : TIp} {x : V} (e : σ[i]? = some (some x)) (h : te σ H fun y H1 => ti x y H1 fun z H2 => n (σ.set i (some z)) H2) : tAug i te ti ⟨n, r, bk, ct⟩ σ H := ⟨x, e, h⟩
theorem a_ipI {f : Int → Int → Int} {i j : Int} (h : Q (.int (f i j)) H) : ipI f (.int i) (.int j) H Q := ⟨i, j, rfl, rfl, h⟩
theorem a_tup {t : TA} (h : t σ H fun xs H1 => xs.length ≤ sizeLine ∧ newO (.tup xs) Q H1) : tTup t σ H Q := h
theorem a_lst {t : TA} (h : t σ H fun xs H1 => xs.length ≤ sizeLine ∧ newO (.lst xs) Q H1) : tLst t σ H Q := h
theorem a_cut {t u : TS} (Mid : L2.St → Hp → Prop) (h : t ⟨Mid, r, bk, ct⟩ σ H) (q : ∀ σ' H', Mid σ' H' → u ⟨n, r, bk, ct⟩ σ' H') : C8.tCut t u ⟨n, r, bk, ct⟩ σ H := ⟨Mid, h, q⟩
/-- is None -/
theorem a_isN {x : V} (h : Q (.bl (decide (x = .non))) H) : ∃ (_ : V.non = .non), Q (.bl (decide (x = .non))) H := ⟨rfl, h⟩
theorem a_sl {ta : TE} {f : Str} (h : ta σ H fun x H1 => ∃ a C dx p vs i v, x = .ref a ∧ SlX.Slt H1 a C dx vs ∧ SlX.SCls K C ∧ SlX.Slot1 K C f p i ∧ vs[i]? = some (some v) ∧ Q v H1) : SlX.tSl K ta f σ H Q := h
theorem a_slot {f : Str} {a C dx p : Addr} {vs : List (Option V)} {i : Nat} {v : V} {R : V → Prop} (c : SlX.SCls K C) (s : SlX.Slot1 K C f p i) (e : SlX.Slt H a C dx vs) (l : vs[i]? = some (some v)) (h : R v) :
    ∃ a' C dx p vs i v, V.ref a = .ref a' ∧ SlX.Slt H a' C dx vs ∧ SlX.SCls K C ∧ SlX.Slot1 K C f p i ∧ vs[i]? = some (some v) ∧ R v := ⟨a, C, dx, p, vs, i, v, rfl, e, c, s, l, h⟩
theorem a_sslX {ta tv : TE} {f : Str} (h : tv σ H fun y H1 => ta σ H1 fun x H2 => ∃ a C dx p vs i, x = .ref a ∧ SlX.Slt H2 a C dx vs ∧ SlX.SCls K C ∧ SlX.Slot1 K C f p i ∧ n σ (SlX.slH H2 a C dx (SlX.putS i y vs))) : SlX.sSl K ta tv f ⟨n, r, bk, ct⟩ σ H := h
theorem a_tsl {f : V → Option Int → Option Int → Hp → VK → Prop} {te : TE} {tl th : TO} (h : te σ H fun x H1 => tl σ H1 fun l H2 => th σ H2 fun u H3 => f x l u H3 Q) : tSl f te tl th σ H Q := h
theorem a_noPart {R : Option Int → Hp → Prop} (h : R none H) : tNoPart σ H R := h
theorem a_part {t : TE} {R : Option Int → Hp → Prop} (h : t σ H fun x H1 => ∃ i, x = .int i ∧ R (some i) H1) : tPart t σ H R := h
theorem a_ixT {p : Addr} {xs : List V} {i : Int} {v : V} (e : SqT K H p xs) (l : atI xs i = some v) (h : Q v H) : rIxT K (.ref p) (.int i) H Q := ⟨p, xs, i, v, rfl, rfl, e, l, h⟩
theorem a_ixL {p : Addr} {xs : List V} {i : Int} {v : V} (e : SqL K H p xs) (l : atI xs i = some v) (h : Q v H) : rIxL K (.ref p) (.int i) H Q := ⟨p, xs, i, v, rfl, rfl, e, l, h⟩
theorem a_len {x : V} {m : Nat} (e : LenV K x H m) (h : Q (.int m) H) : ∃ x' m', [x] = [x'] ∧ LenV K x' H m' ∧ Q (.int m') H := ⟨x, m, rfl, e, h⟩
theorem a_setL {p : Addr} {xs : List V} {k : Int} {j : Nat} {v : V} {R : Hp → Prop} (e : H p = some (.lst xs)) (l : ixN xs.length k = some j) (h : R (upd H p (.lst (xs.set j v)))) : rSetL (.ref p) (.int k) v H R := ⟨p, xs, k, j, rfl, rfl, e, l, h⟩
theorem a_isi {x c : V} {t u : Value} {b : Bool} (cv : ClsV c u) (ty : TyX K H x t) (k : PySem.W.kitOne K t u = some b) (h : Q (.bl b) H) : rIsi K [x, c] H Q := ⟨x, c, t, u, b, rfl, cv, ty, k, h⟩
end
/-! ### branches -/
theorem d_ite {p : Prop} [Decidable p] {A B : Prop} (h1 : p → A) (h2 : ¬ p → B) : if decide p = true then A else B := by
  by_cases h : p
  · rw [decide_eq_true h, if_pos rfl]; exact h1 h
  · rw [decide_eq_false h, if_neg Bool.false_ne_true]; exact h2 h
theorem d_iteN {p : Prop} [Decidable p] {A B : Prop} (h1 : ¬ p → A) (h2 : p → B) : if (!decide p) = true then A else B := by
  by_cases h : p
  · rw [decide_eq_true h]; exact (iteF (h2 h))
  · rw [decide_eq_false h]; exact (iteT (h1 h))
theorem d_iteNN {p : Prop} [Decidable p] {A B : Prop} (h1 : p → A) (h2 : ¬ p → B) : if (!!decide p) = true then A else B := by
  rw [Bool.not_not]; exact d_ite h1 h2
theorem d_t {p : Prop} [Decidable p] {A B : Prop} (h : p) (q : A) : if decide p = true then A else B := by rw [decide_eq_true h]; exact iteT q
theorem d_f {p : Prop} [Decidable p] {A B : Prop} (h : ¬ p) (q : B) : if decide p = true then A else B := by rw [decide_eq_false h]; exact iteF q
theorem d_nt {p : Prop} [Decidable p] {A B : Prop} (h : ¬ p) (q : A) : if (!decide p) = true then A else B := by rw [decide_eq_false h]; exact iteT q
theorem d_nf {p : Prop} [Decidable p] {A B : Prop} (h : p) (q : B) : if (!decide p) = true then A else B := by rw [decide_eq_true h]; exact iteF q
theorem d_bt {b : Bool} {A B : Prop} (h : b = true) (q : A) : if b = true then A else B := by rw [if_pos h]; exact q
theorem d_bf {b : Bool} {A B : Prop} (h : b = false) (q : B) : if b = true then A else B := by rw [if_neg (by rw [h]; exact Bool.false_ne_true)]; exact q
/-! ### heaps -/
theorem up_old {H : Hp} {a b : Addr} {o u : HO} (n : H a = none) (e : H b = some o) : upd H a u b = some o := by rw [upd_ne (ne_of_none e n)]; exact e
theorem via {H H' : Hp} {b : Addr} {o : HO} (S : Same H H') (e : H b = some o) : H' b = some o := S b o e
theorem same_new {H : Hp} {a : Addr} {o : HO} (n : H a = none) : Same H (upd H a o) := fun _ _ e => up_old n e
theorem same_upd {H H' : Hp} {a : Addr} {o : HO} (S : Same H H') (n : H a = none) : Same H (upd H' a o) := fun b u e => by rw [upd_ne (ne_of_none e n)]; exact S b u e
theorem sqT_same {K : PySem.W.Frag} {H H' : Hp} {a : Addr} {xs : List V} (S : Same H H') (h : SqT K H a xs) : SqT K H' a xs := by
  rcases h with (h | ⟨o, h⟩) | h
  · exact .inl (.inl (S _ _ h))
  · exact .inl (.inr ⟨o, S _ _ h⟩)
  · exact .inr h
theorem slt_same {H H' : Hp} {a C dx : Addr} {vs : List (Option V)} (S : Same H H') (h : SlX.Slt H a C dx vs) : SlX.Slt H' a C dx vs := by
  rcases h with ⟨h1, h2⟩ | ⟨h1, h2⟩
  · exact .inl ⟨S _ _ h1, h2⟩
  · exact .inr ⟨S _ _ h1, S _ _ h2⟩
theorem a_new {o : HO} {R : V → Hp → Prop} {H : Hp} (h : ∀ p H', H p = none → Same H H' → H' p = some o → R (.ref p) H') : newO o R H := fun p n => h p _ n (same_new n) upd_same
theorem a_slP {K : PySem.W.Frag} {H : Hp} {Q : VK} {a : Addr} {xs : List V} {lo hi : Option Int} (e : SqT K H a xs) (c : ¬ (HT.sIx xs.length 0 lo = 0 ∧ HT.sIx xs.length xs.length hi = xs.length)) (h : newO (.tup (cutV xs lo hi)) Q H) : rSlA K (.ref a) lo hi H Q :=
  ⟨a, xs, rfl, e, fun z => absurd z c, fun _ => h⟩
theorem a_slA {K : PySem.W.Frag} {H : Hp} {Q : VK} {a : Addr} {xs : List V} {lo hi : Option Int} (e : SqT K H a xs) (h1 : HT.sIx xs.length 0 lo = 0 ∧ HT.sIx xs.length xs.length hi = xs.length → Q (.ref a) H)
    (h2 : ¬ (HT.sIx xs.length 0 lo = 0 ∧ HT.sIx xs.length xs.length hi = xs.length) → newO (.tup (cutV xs lo hi)) Q H) : rSlA K (.ref a) lo hi H Q := ⟨a, xs, rfl, e, h1, h2⟩
theorem a_slL {K : PySem.W.Frag} {H : Hp} {Q : VK} {a : Addr} {xs : List V} {lo hi : Option Int} (e : SqL K H a xs) (h : newO (.lst (cutV xs lo hi)) Q H) : rSlL K (.ref a) lo hi H Q := ⟨a, xs, rfl, e, h⟩
theorem fr_of {H H' : Hp} {a : Addr} (S : Same H H') (n : H' a = none) : H a = none := S.free n
/-! ### more operators -/
section
variable {X : Cx} {H : Hp} {Q : VK}
def rMask : R2 := fun x y H Q => ∃ (i : Int) (k : Nat), x = .int i ∧ y = .int (2 ^ k - 1) ∧ Q (.int (i % 2 ^ k)) H
theorem op_mask : OpR X (binaryOp .BitAnd) rMask := op_andM
theorem a_mask {i m : Int} (k : Nat) (e : m = 2 ^ k - 1) (h : Q (.int (i % 2 ^ k)) H) : rMask (.int i) (.int m) H Q := ⟨i, k, rfl, congrArg V.int e, h⟩
def rOneS : R2 := fun x y H Q => ∃ k : Nat, x = .int 1 ∧ y = .int (k : Int) ∧ k ≤ 134217727 ∧ Q (.int (2 ^ k)) H
theorem op_oneS : OpR X (binaryOp .LShift) rOneS := op_oneShl
theorem a_oneS {k : Nat} (c : k ≤ 134217727) (h : Q (.int (2 ^ k)) H) : rOneS (.int 1) (.int (k : Int)) H Q := ⟨k, rfl, rfl, c, h⟩
theorem shl_small {i : Int} {k : Nat} (h0 : 0 ≤ i) (h1 : i < 65536) (hk : k ≤ 1000) : CShl i (k : Int) := by
  refine ⟨by omega, ?_⟩
  unfold Builtin.Int.intBits
  split
  · omega
  · rename_i hz
    have hz' : i ≠ 0 := by simpa using hz
    have : i.natAbs.log2 < 16 := (Nat.log2_lt (by omega)).mpr (by omega)
    omega
def rShlK : R2 := fun x y H Q => ∃ (i : Int) (k : Nat), x = .int i ∧ y = .int (k : Int) ∧ CShl i (k : Int) ∧ Q (.int (i * 2 ^ k)) H
theorem op_shlK : OpR X (binaryOp .LShift) rShlK := op_shlN
theorem a_shlK {i z : Int} (k : Nat) (e : z = (k : Int)) (c : CShl i (k : Int)) (h : Q (.int (i * 2 ^ k)) H) : rShlK (.int i) (.int z) H Q := ⟨i, k, rfl, congrArg V.int e, c, h⟩
def rOrLow : R2 := fun x y H Q => ∃ (a r : Int) (k : Nat), x = .int (a * 2 ^ k) ∧ y = .int r ∧ (0 ≤ a ∧ 0 ≤ r ∧ r < 2 ^ k) ∧ Q (.int (a * 2 ^ k + r)) H
theorem op_orLow : OpR X (binaryOp .BitOr) rOrLow := op_orL
theorem a_orLow {i r : Int} (a : Int) (k : Nat) (e : i = a * 2 ^ k) (c : 0 ≤ a ∧ 0 ≤ r ∧ r < 2 ^ k) (h : Q (.int (i + r)) H) : rOrLow (.int i) (.int r) H Q := ⟨a, r, k, congrArg V.int e, rfl, c, by rw [← e]; exact h⟩
def rLenS (K : PySem.W.Frag) : List V → Hp → VK → Prop := fun args H Q => ∃ p ys, args = [.ref p] ∧ (SqL K H p ys ∨ SqT K H p ys) ∧ Q (.int ys.length) H
theorem call_lenS : CallR X (.builtin "len") (rLenS X.K) := call_len_seq
theorem a_lenT {K : PySem.W.Frag} {p : Addr} {ys : List V} (e : SqT K H p ys) (h : Q (.int ys.length) H) : rLenS K [.ref p] H Q := ⟨p, ys, rfl, .inr e, h⟩
theorem a_lenL {K : PySem.W.Frag} {p : Addr} {ys : List V} (e : SqL K H p ys) (h : Q (.int ys.length) H) : rLenS K [.ref p] H Q := ⟨p, ys, rfl, .inl e, h⟩
def rInt1 : List V → Hp → VK → Prop := fun xs H Q => (∃ i, xs = [.int i] ∧ Q (.int i) H) ∨ ∃ k, xs = [.bl k] ∧ Q (.int (if k then 1 else 0)) H
theorem call_i1 : CallR X (.type "int") rInt1 := call_int1
theorem a_i1 {i : Int} (h : Q (.int i) H) : rInt1 [.int i] H Q := .inl ⟨i, rfl, h⟩
theorem a_i1b {k : Bool} (h : Q (.int (if k then 1 else 0)) H) : rInt1 [.bl k] H Q := .inr ⟨k, rfl, h⟩
def rMax2 : List V → Hp → VK → Prop := fun args H Q => ∃ i j, args = [.int i, .int j] ∧ Q (.int (if j > i then j else i)) H
theorem call_mx (hc : X.calm = true) : CallR X (.builtin "max") rMax2 := call_max2 hc
theorem a_mx {i j : Int} (h : Q (.int (max i j)) H) : rMax2 [.int i, .int j] H Q := ⟨i, j, rfl, by
  have e : (if j > i then j else i) = max i j := by rw [Int.max_def]; split <;> split <;> omega
  rw [e]; exact h⟩
def rMin2 : List V → Hp → VK → Prop := fun args H Q => ∃ i j, args = [.int i, .int j] ∧ Q (.int (if j < i then j else i)) H
theorem call_mn (hc : X.calm = true) : CallR X (.builtin "min") rMin2 := call_min2 hc
theorem a_mn {i j : Int} (h : Q (.int (min i j)) H) : rMin2 [.int i, .int j] H Q := ⟨i, j, rfl, by
  have e : (if j < i then j else i) = min i j := by rw [Int.min_def]; split <;> split <;> omega
  rw [e]; exact h⟩
def rAbs : List V → Hp → VK → Prop := fun xs H Q => ∃ i, xs = [.int i] ∧ Q (.int (if i < 0 then -i else i)) H
theorem call_ab : CallR X (.builtin "abs") rAbs := call_abs
theorem a_ab {i : Int} (h : Q (.int (if i < 0 then -i else i)) H) : rAbs [.int i] H Q := ⟨i, rfl, h⟩
theorem a_inT {K : PySem.W.Frag} {b : Bool} {x : V} {p : Addr} {xs : List V} (e : SqT K H p xs) (f : flatV x = true) (g : xs.all flatV = true) (h : Q (.bl (if b then !inV x xs else inV x xs)) H) : rIn K b x (.ref p) H Q := ⟨p, xs, rfl, .inr e, f, g, h⟩
theorem a_inL {K : PySem.W.Frag} {b : Bool} {x : V} {p : Addr} {xs : List V} (e : SqL K H p xs) (f : flatV x = true) (g : xs.all flatV = true) (h : Q (.bl (if b then !inV x xs else inV x xs)) H) : rIn K b x (.ref p) H Q := ⟨p, xs, rfl, .inl e, f, g, h⟩
end
theorem bl_dec {p q : Prop} [Decidable p] [Decidable q] (h : p ↔ q) : V.bl (decide p) = V.bl (decide q) := congrArg V.bl (decide_eq_decide.mpr h)
theorem bl_t {p : Prop} [Decidable p] (h : p) : V.bl true = V.bl (decide p) := by rw [decide_eq_true h]
theorem bl_f {p : Prop} [Decidable p] (h : ¬ p) : V.bl false = V.bl (decide p) := by rw [decide_eq_false h]
end K83
end
section
set_option maxRecDepth 100000
set_option maxHeartbeats 4000000
namespace K83
/-! ## the plain law: formulas, their values, the steps that reckon them -/
inductive Fm where
  | num (n : Int)
  | cell (c : Int)
  | two (j : Nat) (l r : Fm)
def Fm.ht : Fm → Nat
  | .num _ => 1
  | .cell _ => 1
  | .two _ l r => if l.ht = r.ht then l.ht + 1 else max l.ht r.ht
def Fm.cnt : Fm → Nat
  | .num _ => 1
  | .cell _ => 1
  | .two _ l r => l.cnt + r.cnt + 1
def Fm.ok : Fm → Prop
  | .num n => -256 ≤ n ∧ n ≤ 255
  | .cell c => 0 ≤ c ∧ c ≤ 31
  | .two j l r => j < 11 ∧ l.ok ∧ r.ok
theorem Fm.ht_pos : ∀ f : Fm, 1 ≤ f.ht
  | .num _ => Nat.le_refl 1
  | .cell _ => Nat.le_refl 1
  | .two _ l r => by
    have := Fm.ht_pos l
    unfold Fm.ht
    split <;> omega
theorem Fm.cnt_pos : ∀ f : Fm, 1 ≤ f.cnt
  | .num _ => Nat.le_refl 1
  | .cell _ => Nat.le_refl 1
  | .two _ l r => by unfold Fm.cnt; omega
theorem Fm.ht_two (j : Nat) (l r : Fm) : (Fm.two j l r).ht = if l.ht = r.ht then l.ht + 1 else max l.ht r.ht := rfl
theorem Fm.cnt_two (j : Nat) (l r : Fm) : (Fm.two j l r).cnt = l.cnt + r.cnt + 1 := rfl
theorem Fm.ht_kids (j : Nat) (l r : Fm) : l.ht ≤ (Fm.two j l r).ht ∧ r.ht ≤ (Fm.two j l r).ht := by
  rw [Fm.ht_two]
  have := l.ht_pos
  split
  · omega
  · exact ⟨Nat.le_max_left .., Nat.le_max_right ..⟩
theorem Fm.ht_le : ∀ f : Fm, f.ht ≤ f.cnt
  | .num _ => Nat.le_refl 1
  | .cell _ => Nat.le_refl 1
  | .two j l r => by
    have h1 := Fm.ht_le l
    have h2 := Fm.ht_le r
    have h3 := Fm.cnt_pos l
    have h4 := Fm.cnt_pos r
    rw [Fm.ht_two, Fm.cnt_two]
    split <;> omega
/-- a word read with its sign -/
def sg (w : Nat) (x : Int) : Int := if 2 * x ≥ 2 ^ w then x - 2 ^ w else x
/-- what the plain operators reckon -/
def rk (w : Nat) (j : Nat) (a b : Int) : Int :=
  match j with
  | 0 => (a + b) % 2 ^ w
  | 1 => (a - b) % 2 ^ w
  | 2 => PySem.Builtin.bitAnd a b
  | 3 => PySem.Builtin.bitOr a b
  | 4 => PySem.Builtin.bitXor a b
  | 5 => if sg w a < sg w b then 1 else 0
  | 6 => (a * 2 ^ (b % 16).toNat) % 2 ^ w
  | _ => a / 2 ^ (b % 16).toNat
def val2 (w : Nat) (j : Nat) (a b : Int) : Option Int :=
  if j < 8 then some (rk w j a b) else if j = 8 then some (a * b % 2 ^ w) else if b = 0 then none else if j = 9 then some (a / b) else some (a % b)
def Fm.val (w : Nat) (ld : Int → Int) : Fm → Option Int
  | .num n => some (n % 2 ^ w)
  | .cell c => some (ld (c % 2 ^ w))
  | .two j l r => (l.val w ld).bind fun a => (r.val w ld).bind fun b => val2 w j a b
inductive Ins where
  | put (g : Nat) (n : Int)
  | load (g : Nat) (c : Int)
  | op (j g o : Nat)
abbrev Rg := List Int
def exec (w : Nat) (ld : Int → Int) : Ins → Rg → Option Rg
  | .put g n, r => some (r.set g (n % 2 ^ w))
  | .load g c, r => some (r.set g (ld (c % 2 ^ w)))
  | .op j g o, r => (val2 w j (r.getD g 0) (r.getD o 0)).map fun v => r.set g v
def comp : Fm → List Nat → List Ins
  | .num n, rs => [.put (rs.getD 0 0) n]
  | .cell c, rs => [.load (rs.getD 0 0) c]
  | .two j l r, rs =>
    if r.ht ≤ l.ht then comp l rs ++ comp r (rs.drop 1) ++ [.op j (rs.getD 0 0) (rs.getD 1 0)]
    else comp r (rs.getD 1 0 :: rs.getD 0 0 :: rs.drop 2) ++ comp l (rs.getD 0 0 :: rs.drop 2) ++ [.op j (rs.getD 0 0) (rs.getD 1 0)]
theorem comp_len : ∀ (f : Fm) (rs : List Nat), (comp f rs).length = f.cnt
  | .num _, _ => rfl
  | .cell _, _ => rfl
  | .two j l r, rs => by
    unfold comp
    split
    · simp only [List.length_append, comp_len l, comp_len r, List.length_singleton, Fm.cnt_two]
    · simp only [List.length_append, comp_len l, comp_len r, List.length_singleton, Fm.cnt_two]; omega
/-- the registers behind these steps, whether all went well -/
def execs (w : Nat) (ld : Int → Int) : List Ins → Rg → Rg × Bool
  | [], r => (r, true)
  | i :: is, r => match exec w ld i r with
    | some r' => execs w ld is r'
    | none => (r, false)
theorem execs_cons (w : Nat) (ld : Int → Int) (i : Ins) (is : List Ins) (r : Rg) : execs w ld (i :: is) r = match exec w ld i r with
    | some r' => execs w ld is r'
    | none => (r, false) := rfl
theorem execs_app (w : Nat) (ld : Int → Int) : ∀ (p q : List Ins) (r : Rg), execs w ld (p ++ q) r = if (execs w ld p r).2 = true then execs w ld q (execs w ld p r).1 else execs w ld p r
  | [], q, r => rfl
  | i :: p, q, r => by
    rw [List.cons_append, execs_cons, execs_cons]
    cases h : exec w ld i r with
    | none => rfl
    | some r' => exact execs_app w ld p q r'
/-- words -/
def Wd (w : Nat) (x : Int) : Prop := 0 ≤ x ∧ x < 2 ^ w
theorem two_pos (w : Nat) : (0 : Int) < 2 ^ w := Int.pow_pos (by decide)
theorem Wd.mod (w : Nat) (x : Int) : Wd w (x % 2 ^ w) := ⟨Int.emod_nonneg _ (Int.ne_of_gt (two_pos w)), Int.emod_lt_of_pos _ (two_pos w)⟩
theorem nn_eq {x : Int} (h : 0 ≤ x) : ∃ n : Nat, x = (n : Int) := ⟨x.toNat, (Int.toNat_of_nonneg h).symm⟩
theorem castpow (w : Nat) : ((2 ^ w : Nat) : Int) = (2 : Int) ^ w := by simp

open PySem.Builtin in
theorem or_wd {w : Nat} {a b : Int} (ha : Wd w a) (hb : Wd w b) : Wd w (bitOr a b) ∧ b ≤ bitOr a b := by
  obtain ⟨n, rfl⟩ := nn_eq ha.1
  obtain ⟨m, rfl⟩ := nn_eq hb.1
  rw [L2.bitOr_nn ha.1 hb.1, Int.toNat_natCast, Int.toNat_natCast]
  have h1 : n < 2 ^ w := L2.nat_lt_pow ha.2
  have h2 : m < 2 ^ w := L2.nat_lt_pow hb.2
  have h3 : n ||| m < 2 ^ w := Nat.or_lt_two_pow h1 h2
  refine ⟨⟨Int.natCast_nonneg _, ?_⟩, ?_⟩
  · rw [← castpow]; exact Int.ofNat_lt.mpr h3
  · exact Int.ofNat_le.mpr Nat.right_le_or
open PySem.Builtin in
theorem rk_wd {w : Nat} (hw : 1 ≤ w) {a b : Int} (ha : Wd w a) (hb : Wd w b) (j : Nat) : Wd w (rk w j a b) := by
  have ho := or_wd ha hb
  have hn := PyProof.Rows.bitAnd_range a hb.1
  unfold rk
  split
  · exact Wd.mod _ _
  · exact Wd.mod _ _
  · exact ⟨hn.1, Int.lt_of_le_of_lt hn.2 hb.2⟩
  · exact ho.1
  · have e : bitXor a b = bitOr a b - bitAnd a b := rfl
    rw [e]
    have := ho.1.2
    have := ho.2
    constructor <;> omega
  · have : (2 : Int) ≤ 2 ^ w := by
      obtain ⟨m, rfl⟩ : ∃ m, w = m + 1 := ⟨w - 1, by omega⟩
      have := two_pos m
      rw [Int.pow_succ]; omega
    unfold Wd
    split <;> omega
  · exact Wd.mod _ _
  · have hp := two_pos (b % 16).toNat
    refine ⟨Int.ediv_nonneg ha.1 (Int.le_of_lt hp), Int.lt_of_le_of_lt (Int.ediv_le_self _ ha.1) ha.2⟩
theorem val2_wd {w : Nat} (hw : 1 ≤ w) {a b v : Int} (ha : Wd w a) (hb : Wd w b) {j : Nat} (h : val2 w j a b = some v) : Wd w v := by
  unfold val2 at h
  split at h
  · cases h; exact rk_wd hw ha hb j
  split at h
  · cases h; exact Wd.mod _ _
  split at h
  · cases h
  · rename_i hb0
    have hb1 : 0 < b := by have := hb.1; omega
    split at h
    · cases h; exact ⟨Int.ediv_nonneg ha.1 hb.1, Int.lt_of_le_of_lt (Int.ediv_le_self _ ha.1) ha.2⟩
    · cases h; exact ⟨Int.emod_nonneg _ hb0, Int.lt_trans (Int.emod_lt_of_pos _ hb1) hb.2⟩
theorem val_wd {w : Nat} (hw : 1 ≤ w) {ld : Int → Int} (hl : ∀ k, Wd w (ld k)) : ∀ (f : Fm) (v : Int), f.val w ld = some v → Wd w v
  | .num n, v, h => by cases h; exact Wd.mod _ _
  | .cell c, v, h => by cases h; exact hl _
  | .two j l r, v, h => by
    have h1 : ((l.val w ld).bind fun a => (r.val w ld).bind fun b => val2 w j a b) = some v := h
    cases ha : l.val w ld with
    | none => rw [ha] at h1; cases h1
    | some a =>
      cases hb : r.val w ld with
      | none => rw [ha, hb] at h1; cases h1
      | some b =>
        rw [ha, hb] at h1
        exact val2_wd hw (val_wd hw hl l a ha) (val_wd hw hl r b hb) h1
theorem mem_set_wd {w : Nat} {r : Rg} {g : Nat} {v : Int} (h : ∀ x ∈ r, Wd w x) (hv : Wd w v) : ∀ x ∈ r.set g v, Wd w x := fun x hx => by
  rcases List.mem_or_eq_of_mem_set hx with h' | rfl
  · exact h x h'
  · exact hv
theorem getD_wd {w : Nat} {r : Rg} (h : ∀ x ∈ r, Wd w x) (g : Nat) : Wd w (r.getD g 0) := by
  rw [List.getD_eq_getElem?_getD]
  cases e : r[g]? with
  | none => exact ⟨Int.le_refl _, two_pos w⟩
  | some y => exact h y (List.mem_of_getElem? e)
/-- what is said of a run from r by the registers rs -/
structure Ran (w : Nat) (rs : List Nat) (r : Rg) (o : Option Int) (z : Rg × Bool) : Prop where
  ok : z.2 = o.isSome
  len : z.1.length = r.length
  wd : ∀ x ∈ z.1, Wd w x
  out : ∀ i, i ∉ rs → z.1[i]? = r[i]?
  at_ : ∀ v, o = some v → z.1[rs.getD 0 0]? = some v
theorem getD_of {r : Rg} {g : Nat} {v : Int} (h : r[g]? = some v) : r.getD g 0 = v := by rw [List.getD_eq_getElem?_getD, h]; rfl
theorem Ran.put {w : Nat} {rs : List Nat} {r : Rg} {v : Int} {g : Nat} {tl : List Nat} (e : rs = g :: tl) (hg : g < r.length) (h : ∀ x ∈ r, Wd w x) (hv : Wd w v) : Ran w rs r (some v) (r.set g v, true) := by
  subst e
  refine ⟨rfl, List.length_set .., mem_set_wd h hv, fun i hi => ?_, fun u e => ?_⟩
  · exact List.getElem?_set_ne (fun e => hi (by rw [← e]; exact List.mem_cons_self ..))
  · cases e
    exact List.getElem?_set_self hg
theorem run_comp {w : Nat} (hw : 1 ≤ w) {ld : Int → Int} (hl : ∀ k, Wd w (ld k)) : ∀ (f : Fm) (rs : List Nat) (r : Rg), rs.Nodup → (∀ x ∈ rs, x < r.length) → f.ht ≤ rs.length → (∀ x ∈ r, Wd w x) → Ran w rs r (f.val w ld) (execs w ld (comp f rs) r)
  | .num n, [], r, _, _, h, _ => absurd h (Nat.not_succ_le_zero 0)
  | .cell n, [], r, _, _, h, _ => absurd h (Nat.not_succ_le_zero 0)
  | .num n, g :: tl, r, nd, hx, hh, hr => Ran.put rfl (hx g (List.mem_cons_self ..)) hr (Wd.mod _ _)
  | .cell c, g :: tl, r, nd, hx, hh, hr => Ran.put rfl (hx g (List.mem_cons_self ..)) hr (hl _)
  | .two j l k, rs, r, nd, hx, hh, hr => by
    have p1 := l.ht_pos
    have p2 := k.ht_pos
    rw [Fm.ht_two] at hh
    obtain ⟨g, o, tl, rfl⟩ : ∃ g o tl, rs = g :: o :: tl := by
      match rs with
      | [] => simp only [List.length_nil] at hh; split at hh <;> omega
      | [_] => simp only [List.length_cons, List.length_nil] at hh; split at hh <;> omega
      | g :: o :: tl => exact ⟨g, o, tl, rfl⟩
    have hg := hx g (List.mem_cons_self ..)
    have ho := hx o (List.mem_cons_of_mem _ (List.mem_cons_self ..))
    obtain ⟨n1, nd1⟩ := List.nodup_cons.mp nd
    obtain ⟨n2, nd2⟩ := List.nodup_cons.mp nd1
    have hgo : g ≠ o := fun e => n1 (by rw [e]; exact List.mem_cons_self ..)
    simp only [List.length_cons] at hh
    -- the last step, from a state that holds both values
    have fin : ∀ (z : Rg) (a b : Int), z.length = r.length → (∀ x ∈ z, Wd w x) → (∀ i, i ∉ g :: o :: tl → z[i]? = r[i]?) → z[g]? = some a → z[o]? = some b → l.val w ld = some a → k.val w ld = some b →
        Ran w (g :: o :: tl) r ((Fm.two j l k).val w ld) (execs w ld [.op j g o] z) := by
      intro z a b z1 z2 z3 z4 z5 z6 z7
      have e : (Fm.two j l k).val w ld = val2 w j a b := by
        show ((l.val w ld).bind fun a => (k.val w ld).bind fun b => val2 w j a b) = _
        rw [z6, z7]; rfl
      rw [e, execs_cons]
      show Ran _ _ _ _ (match (val2 w j (z.getD g 0) (z.getD o 0)).map fun v => z.set g v with
        | some r' => execs w ld [] r'
        | none => (z, false))
      rw [getD_of z4, getD_of z5]
      cases q : val2 w j a b with
      | none => exact ⟨rfl, z1, z2, z3, fun v h => nomatch h⟩
      | some v =>
        have hv : Wd w v := val2_wd hw (val_wd hw hl l a z6) (val_wd hw hl k b z7) q
        have t := Ran.put (rs := g :: o :: tl) (tl := o :: tl) rfl (show g < z.length by omega) z2 hv
        exact ⟨t.ok, t.len.trans z1, t.wd, fun i hi => (t.out i hi).trans (z3 i hi), t.at_⟩
    have bad : ∀ z : Rg × Bool, z.2 = false → z.1.length = r.length → (∀ x ∈ z.1, Wd w x) → (∀ i, i ∉ g :: o :: tl → z.1[i]? = r[i]?) → (l.val w ld = none ∨ k.val w ld = none) → Ran w (g :: o :: tl) r ((Fm.two j l k).val w ld) z := by
      intro z z0 z1 z2 z3 z4
      have e : (Fm.two j l k).val w ld = none := by
        show ((l.val w ld).bind fun a => (k.val w ld).bind fun b => val2 w j a b) = none
        rcases z4 with z4 | z4
        · rw [z4]; rfl
        · rw [z4]; cases l.val w ld <;> rfl
      rw [e]
      exact ⟨z0, z1, z2, z3, fun v h => nomatch h⟩
    unfold comp
    by_cases hc : k.ht ≤ l.ht
    · rw [if_pos hc]
      show Ran _ _ _ _ (execs w ld (comp l (g :: o :: tl) ++ comp k (o :: tl) ++ [.op j g o]) r)
      have A := run_comp hw hl l (g :: o :: tl) r nd hx (by simp only [List.length_cons]; split at hh <;> omega) hr
      rw [List.append_assoc, execs_app]
      cases ea : l.val w ld with
      | none =>
        rw [ea] at A
        rw [if_neg (by rw [A.ok]; exact Bool.false_ne_true)]
        exact bad _ A.ok A.len A.wd A.out (.inl ea)
      | some a =>
        rw [ea] at A
        rw [if_pos (by rw [A.ok]; rfl), execs_app]
        have B := run_comp hw hl k (o :: tl) (execs w ld (comp l (g :: o :: tl)) r).1 nd1 (fun x h => by rw [A.len]; exact hx x (List.mem_cons_of_mem _ h)) (by simp only [List.length_cons]; split at hh <;> omega) A.wd
        have hout : ∀ i, i ∉ g :: o :: tl → (execs w ld (comp k (o :: tl)) (execs w ld (comp l (g :: o :: tl)) r).1).1[i]? = r[i]? := fun i hi => (B.out i fun h => hi (List.mem_cons_of_mem _ h)).trans (A.out i hi)
        cases eb : k.val w ld with
        | none =>
          rw [eb] at B
          rw [if_neg (by rw [B.ok]; exact Bool.false_ne_true)]
          exact bad _ B.ok (B.len.trans A.len) B.wd hout (.inr eb)
        | some b =>
          rw [eb] at B
          rw [if_pos (by rw [B.ok]; rfl)]
          exact fin _ a b (B.len.trans A.len) B.wd hout ((B.out g n1).trans (A.at_ a rfl)) (B.at_ b rfl) ea eb
    · rw [if_neg hc]
      show Ran _ _ _ _ (execs w ld (comp k (o :: g :: tl) ++ comp l (g :: tl) ++ [.op j g o]) r)
      have sub : ∀ i, i ∉ g :: o :: tl → i ∉ o :: g :: tl := fun i hi h => by
        simp only [List.mem_cons] at h hi
        rcases h with h | h | h
        · exact hi (.inr (.inl h))
        · exact hi (.inl h)
        · exact hi (.inr (.inr h))
      have n1' : g ∉ tl := fun h => n1 (List.mem_cons_of_mem _ h)
      have ndA : (o :: g :: tl).Nodup := by
        refine List.nodup_cons.mpr ⟨fun h => ?_, List.nodup_cons.mpr ⟨n1', nd2⟩⟩
        rcases List.mem_cons.mp h with h | h
        · exact hgo h.symm
        · exact n2 h
      have hxA : ∀ x ∈ o :: g :: tl, x < r.length := fun x h => by
        simp only [List.mem_cons] at h
        rcases h with h | h | h
        · rw [h]; exact ho
        · rw [h]; exact hg
        · exact hx x (List.mem_cons_of_mem _ (List.mem_cons_of_mem _ h))
      have A := run_comp hw hl k (o :: g :: tl) r ndA hxA (by simp only [List.length_cons]; split at hh <;> omega) hr
      rw [List.append_assoc, execs_app]
      cases eb : k.val w ld with
      | none =>
        rw [eb] at A
        rw [if_neg (by rw [A.ok]; exact Bool.false_ne_true)]
        exact bad _ A.ok A.len A.wd (fun i hi => A.out i (sub i hi)) (.inr eb)
      | some b =>
        rw [eb] at A
        rw [if_pos (by rw [A.ok]; rfl), execs_app]
        have B := run_comp hw hl l (g :: tl) (execs w ld (comp k (o :: g :: tl)) r).1 (List.nodup_cons.mpr ⟨n1', nd2⟩) (fun x h => by rw [A.len]; exact hxA x (List.mem_cons_of_mem _ h)) (by simp only [List.length_cons]; split at hh <;> omega) A.wd
        have hout : ∀ i, i ∉ g :: o :: tl → (execs w ld (comp l (g :: tl)) (execs w ld (comp k (o :: g :: tl)) r).1).1[i]? = r[i]? := fun i hi => (B.out i fun h => sub i hi (List.mem_cons_of_mem _ h)).trans (A.out i (sub i hi))
        cases ea : l.val w ld with
        | none =>
          rw [ea] at B
          rw [if_neg (by rw [B.ok]; exact Bool.false_ne_true)]
          exact bad _ B.ok (B.len.trans A.len) B.wd hout (.inl ea)
        | some a =>
          rw [ea] at B
          rw [if_pos (by rw [B.ok]; rfl)]
          exact fin _ a b (B.len.trans A.len) B.wd hout (B.at_ a rfl) ((B.out o fun h => by
            rcases List.mem_cons.mp h with h | h
            · exact hgo h.symm
            · exact n2 h).trans (A.at_ b rfl)) ea eb
end K83
end
section
set_option maxRecDepth 100000
set_option maxHeartbeats 4000000
namespace K83
open PySem PySem.Spec PyProof.Rows L2
/-! ## match of an int against literals -/
structure PMc (X : Cx) (cs : List MatchCase) (t : V → TS) : Prop where
  run : ∀ (first : Bool) (pins : List (Addr × Obj)) (s : Shared) (σ : L2.St) (H : Hp) (D : Ends) (v : V) (u : Value), Inv X pins σ H s → RelV v u → t v D σ H → wpAny (model X.prog X.w) X.A (matchCases cs X.env u first) (SP X pins D) X.xe s
def tCase (i : Int) (tb : TS) (tr : V → TS) : V → TS := fun v D σ H => ∃ k, v = .int k ∧ if decide (k = i) = true then tb D σ H else tr v D σ H
def tMat (te : TE) (t : V → TS) : TS := fun D σ H => te σ H fun v H1 => t v D σ H1
section
variable {X : Cx} {H : Hp} {σ : L2.St} {D : Ends}
theorem mc_int {i : Int} {j : Nat} {p1 p2 : Pos} {body : List Stmt} {rest : List MatchCase} {tb : TS} {tr : V → TS} (hb : PSs X body tb) (hr : PMc X rest tr) : PMc X (⟨.MatchValue (.Constant (.int i) j p1) p2, none, body⟩ :: rest) (tCase i tb tr) := by
  refine ⟨fun first pins s σ H D v u I r h => ?_⟩
  obtain ⟨k, rfl, h⟩ := h
  refine wpAny_matchCases_cons (wpAny_matchPattern_Value ?_)
  refine thn (pe_int.run pins s σ H (fun y H1 => y = .int i ∧ H1 = H) I ⟨rfl, rfl⟩) fun x s1 ⟨y, H1, I1, ry, e⟩ => ?_
  obtain ⟨rfl, rfl⟩ := e
  refine thn (op_eq pins s1 σ H1 (.int k) (.int i) u x (fun y H2 => y = .bl (decide (k = i)) ∧ H2 = H1) I1 r ry ⟨rfl, by rw [dec_int]; rfl, rfl⟩) fun c s2 ⟨y, H2, I2, rc, e⟩ => ?_
  obtain ⟨rfl, rfl⟩ := e
  cases rc
  refine wpAny_truthy_bool ?_
  by_cases q : k = i
  · rw [decide_eq_true q] at h ⊢
    exact assignInOrder_nil (hb.run pins s2 σ H2 D I2 h)
  · rw [decide_eq_false q] at h ⊢
    exact hr.run false pins s2 σ H2 D _ _ I2 r h
theorem mc_any {p : Pos} {body : List Stmt} {rest : List MatchCase} {tb : TS} (hb : PSs X body tb) : PMc X (⟨.MatchAs none none p, none, body⟩ :: rest) (fun _ => tb) := by
  refine ⟨fun first pins s σ H D v u I r h => ?_⟩
  refine wpAny_matchCases_cons (wpAny_matchPattern_Capture ?_)
  exact assignInOrder_nil (hb.run pins s σ H D I h)
theorem ps_mat {e : Expr} {cs : List MatchCase} {pos : Pos} {te : TE} {t : V → TS} (he : PE X e te) (hc : PMc X cs t) : PS X (.Match e cs pos) (tMat te t) := by
  refine ⟨fun pins s σ H D I h => ?_⟩
  exact wpAny_Match (thn (he.run pins s σ H _ I h) fun u s1 ⟨v, H1, I1, r, q⟩ => hc.run true pins s1 σ H1 D v u I1 r q)
theorem a_mat {te : TE} {t : V → TS} (h : te σ H fun v H1 => t v D σ H1) : tMat te t D σ H := h
theorem a_case {i k : Int} {tb : TS} {tr : V → TS} (h : if decide (k = i) = true then tb D σ H else tr (.int k) D σ H) : tCase i tb tr (.int k) D σ H := ⟨k, rfl, h⟩
end

/-! ## tables with text keys of the top; methods; new tuples and lists of a sequence -/
section
variable {X : Cx} {H : Hp} {σ : L2.St} {Q : VK} {K : PySem.W.Frag}
def rInKd (K : PySem.W.Frag) (d : Addr) : R2 := fun x y H Q => ∃ (z : Str) (r : Option Value), x = .str z ∧ y = .ref d ∧ PySem.W.nsIn K d z = some r ∧ Q (.bl r.isSome) H
theorem op_inKd {d : Addr} {es : Array DictEntry} {n : Nat} (D : KDict X.K X.w d es n) : OpR X (compareOp .In) (rInKd X.K d) := op_in_kd D
theorem a_inKd {d : Addr} {z : Str} {r : Option Value} (e : PySem.W.nsIn K d z = some r) (h : Q (.bl r.isSome) H) : rInKd K d (.str z) (.ref d) H Q := ⟨z, r, rfl, rfl, e, h⟩
def tKdGet (K : PySem.W.Frag) (d : Addr) (td ty : TE) : TE := fun σ H Q => td σ H fun x H1 => ty σ H1 fun y H2 => ∃ (z : Str) (u0 : Value) (v0 : V), x = .ref d ∧ y = .str z ∧ PySem.W.nsIn K d z = some (some u0) ∧ RelV v0 u0 ∧ Q v0 H2
theorem pe_kdGet {d : Addr} {es : Array DictEntry} {n : Nat} {o i : Expr} {pos : Pos} {td ty : TE} (D : KDict X.K X.w d es n) (ho : PE X o td) (hi : PE X i ty) (hs : NoSl i) : PE X (.Subscript o i pos) (tKdGet X.K d td ty) := by
  refine ⟨fun pins s σ H Q I h => ?_⟩
  refine subD_of PySem.F.slot_dict_getitem.lookup hs (thn (ho.run pins s σ H _ I h) fun u s1 ⟨x, H1, I1, rx, q1⟩ => thn (hi.run pins s1 σ H1 _ I1 q1) fun iv s2 ⟨y, H2, I2, ry, z, u0, v0, ex, ey, e, r0, q2⟩ => ?_)
  subst ex
  obtain rfl : u = Value.ref d := rx
  exact ⟨kd_type D I2, op_item_kd D pins s2 σ H2 (.ref d) y _ iv Q I2 rfl ry ⟨z, u0, v0, rfl, ey, e, r0, q2⟩⟩
theorem a_kdGet {d : Addr} {td ty : TE} (h : td σ H fun x H1 => ty σ H1 fun y H2 => ∃ (z : Str) (u0 : Value) (v0 : V), x = .ref d ∧ y = .str z ∧ PySem.W.nsIn K d z = some (some u0) ∧ RelV v0 u0 ∧ Q v0 H2) : tKdGet K d td ty σ H Q := h
theorem a_bm0 {T : String} {f : V → List V → Hp → VK → Prop} {to : TE} (h : to σ H fun x H1 => tyV K T x H1 ∧ f x [] H1 Q) : tBM0 K T f to σ H Q := h
theorem a_bm {T : String} {f : V → List V → Hp → VK → Prop} {to : TE} {t : TA} (h : to σ H fun x H1 => tyV K T x H1 ∧ t σ H1 fun xs H2 => f x xs H2 Q) : tBM K T f to t σ H Q := h
theorem ty_list {p : Addr} {xs : List V} (e : SqL K H p xs) : tyV K "list" (.ref p) H := .inl ⟨rfl, xs, e⟩
theorem a_pop {l : Addr} {xs : List V} {y : V} (e : H l = some (.lst xs)) (h : xs[xs.length - 1]? = some y) (q : Q y (upd H l (.lst xs.dropLast))) : rPop (.ref l) [] H Q := ⟨l, xs, y, rfl, rfl, e, h, q⟩
theorem a_extend {l b : Addr} {xs zs : List V} (e : H l = some (.lst xs)) (e2 : H b = some (.lst zs)) (z : xs.length + zs.length ≤ sizeLine) (q : Q .non (upd H l (.lst (xs ++ zs)))) : rExtend (.ref l) [.ref b] H Q := ⟨l, b, xs, zs, rfl, rfl, e, e2, z, q⟩
/-- list.extend by a tuple or a list -/
def rTix (K : PySem.W.Frag) : V → List V → Hp → VK → Prop := fun x xs H Q => ∃ p, ∃ ys : List Str, ∃ z j, x = .ref p ∧ xs = [.str z] ∧ SqT K H p (ys.map V.str) ∧ ys[j]? = some z ∧ (∀ m, m < j → ys[m]? ≠ some z) ∧ Q (.int (j : Nat)) H
theorem mt_tix : MtR X "tuple.index" (rTix X.K) := mt_tup_index
def rTupOf (K : PySem.W.Frag) : List V → Hp → VK → Prop := fun xs H Q => ∃ p ys, xs = [.ref p] ∧ ((SqL K H p ys ∧ ∀ l, H l = none → Q (.ref l) (upd H l (.tup ys))) ∨ (SqT K H p ys ∧ Q (.ref p) H))
theorem call_tupOf : CallR X (.type "tuple") (rTupOf X.K) := call_tuple_of
theorem a_tupOfL {p : Addr} {ys : List V} (e : SqL K H p ys) (h : newO (.tup ys) Q H) : rTupOf K [.ref p] H Q := ⟨p, ys, rfl, .inl ⟨e, h⟩⟩
def rLstOf (K : PySem.W.Frag) : List V → Hp → VK → Prop := fun xs H Q => ∃ p ys, xs = [.ref p] ∧ (SqL K H p ys ∨ SqT K H p ys) ∧ ∀ l, H l = none → Q (.ref l) (upd H l (.lst ys))
theorem call_lstOf : CallR X (.type "list") (rLstOf X.K) := call_list_of
theorem a_lstOfL {p : Addr} {ys : List V} (e : SqL K H p ys) (h : newO (.lst ys) Q H) : rLstOf K [.ref p] H Q := ⟨p, ys, rfl, .inl e, h⟩
theorem a_lstOfT {p : Addr} {ys : List V} (e : SqT K H p ys) (h : newO (.lst ys) Q H) : rLstOf K [.ref p] H Q := ⟨p, ys, rfl, .inr e, h⟩
theorem a_lenDT {p : Addr} {kvs : List (List Key × V)} (e : H p = some (.dT kvs)) (h : Q (.int ((kvs.length : Nat) : Int)) H) : rLenT [.ref p] H Q := ⟨p, kvs, rfl, e, h⟩
end
end K83
end
section
set_option maxRecDepth 100000
set_option maxHeartbeats 4000000
namespace K83
/-! ## xs.extend(t), t any tuple -/
section
open PySem PySem.MeetsSeq PySem.MeetsSeq2 PySem.MeetsSeq3 PySem.SeqAt PySem.AutoSeq1
open PySem.AutoSeq1 (wpAny_loadPart')
theorem ext_tup (l b : Addr) (xs ys : Array Value) (n m : Nat) (dd : Option Addr) (sl : Array (Option Value)) (c0 : ¬(!xs.isEmpty && Builtin.List.listTooLong (xs.size + ys.size)) = true) (c1 : xs.size ≤ sizeLine) (c2 : (xs ++ ys).size ≤ sizeLine + 1) :
    Meets (Builtin.«list.extend» ⟨[.ref l, .ref b], []⟩) (fun _ R s => s.heap.get? l = some { cls := .type "list", dict := none, data := .seq xs n, slots := #[] } ∧
      s.heap.get? b = some { cls := .type "tuple", dict := dd, data := .seq ys m, slots := sl } ∧ R (.ok (.ret Value.none)) { s with heap := s.heap.update l (Obj.mapSeq fun x => x ++ ys), toks := s.toks }) :=
  Meets.of_wp fun prog w A R s q => by
    obtain ⟨q1, q2, q⟩ := q
    obtain ⟨hp, g, d, tk, os⟩ := s
    have f1 := idx_int
    have f2 := sub_tuple_tuple
    have f3 := sub_list_list
    have f4 := sub_tuple_list
    have f5 := sub_list_tuple
    wp_walk using (wpAny_updateSeq q1 rfl (hz := c1) (_hz' := c2)), wpAny_loadPart' q1, wpAny_loadPart' q2
    exact ⟨_, rfl, q⟩
end
open PySem PySem.Spec PyProof.Rows L2
def rExtT (K : PySem.W.Frag) : V → List V → Hp → VK → Prop := fun x vs H Q => ∃ l b xs zs, x = .ref l ∧ vs = [.ref b] ∧ H l = some (.lst xs) ∧ SqT K H b zs ∧ xs.length + zs.length ≤ sizeLine ∧ Q .non (upd H l (.lst (xs ++ zs)))
theorem mt_extT {X : Cx} : MtR X "list.extend" (rExtT X.K) := by
  intro pins s σ H x vs v us Q I rx rv h
  obtain ⟨l, b, xs, zs, rfl, rfl, atL, atB, short, q⟩ := h
  cases rx
  obtain ⟨u, rfl, ru⟩ := rv.one
  cases ru
  obtain ⟨z, its, n, r, hl, e⟩ := I.lstM atL
  obtain ⟨its2, r2, ⟨o, e2, oc, m, od⟩, hl2⟩ := I.tuple atB
  obtain ⟨cls, dd, dat, sl⟩ := o
  obtain rfl : cls = .type "tuple" := oc
  obtain rfl : dat = .seq its2.toArray m := od
  have k2 := r2.length
  have fits : its.toArray.size + its2.toArray.size ≤ sizeLine := by
    rw [List.size_toArray, List.size_toArray]
    omega
  refine call_meets F.slot_list_extend ⟨_, e, rfl⟩ F.entry_list_extend (F.args_list_extend_2 _ _)
    (ext_tup l b its.toArray its2.toArray n m dd sl (by rw [notLongL fits, Bool.and_false]; exact Bool.false_ne_true) (by rw [List.size_toArray]; omega) (by rw [Array.size_append]; omega)) ⟨e, e2, ?_⟩
  refine ⟨.non, _, I.lset (its' := its ++ its2) atL e (by simp) (r.append r2) ?_, rfl, q⟩
  rw [List.length_append]
  omega
theorem a_extT {K : PySem.W.Frag} {H : Hp} {Q : VK} {l b : Addr} {xs zs : List V} (e : H l = some (.lst xs)) (e2 : SqT K H b zs) (z : xs.length + zs.length ≤ sizeLine) (q : Q .non (upd H l (.lst (xs ++ zs)))) : rExtT K (.ref l) [.ref b] H Q := ⟨l, b, xs, zs, rfl, rfl, e, e2, z, q⟩
end K83
end
section
set_option maxRecDepth 100000
set_option maxHeartbeats 4000000
namespace K83
open PySem PySem.Spec PyProof.Rows L2
section
variable {X : Cx} {H : Hp} {σ : L2.St} {Q : VK} {K : PySem.W.Frag}
/-- an expression that the proof never comes to -/
def tNoE : TE := fun _ _ _ => False
theorem pe_no {e : Expr} : PE X e tNoE := ⟨fun _ _ _ _ _ _ h => h.elim⟩
/-- o.f as a target, f a slot -/
def gSl (K : PySem.W.Frag) (ta : TE) (f : Str) : TG := fun v σ H R => ta σ H fun x H2 => ∃ a C dx p vs i, x = .ref a ∧ SlX.Slt H2 a C dx vs ∧ SlX.SCls K C ∧ SlX.Slot1 K C f p i ∧ R σ (SlX.slH H2 a C dx (SlX.putS i v vs))
theorem pg_sl {o : Expr} {f : Str} {pos : Pos} {ta : TE} (ho : PE X o ta) : PG X (.Attribute o f pos) (gSl X.K ta f) := by
  refine ⟨fun pins s σ H v u Q I r h => ?_⟩
  rw [PySem.assign_Attribute]
  refine wpAny_bind (wpAny_holding (thn (ho.run pins s σ H _ I h) fun ov s1 ⟨x, H1, I1, rx, a, C, dx, p, vs, i, ex, hsl, c, t, q⟩ => ?_))
  subst ex
  obtain rfl : ov = Value.ref a := rx
  exact wpAny_bind (wpAny_standAt (wpAny_bind (wpAny_holding (SlX.setslot_ok I1 hsl c t r fun s3 I3 => wpAny_release ⟨σ, _, I3, q⟩))))
theorem pg_tupK {es : List Expr} {kk : Nat} {t : TGs} {m : Nat} {pos : Pos} (hK : X.K = K) (hc : X.calm = true) (h : PGs X es t) (hn : (assignEach es X.env).length = m := by rfl) (hst : (assignEach es X.env).findIdx? (·.1) = none := by rfl) : PG X (.Tuple es kk pos) (gTup K m t) := by
  subst hK
  exact pg_tup hc h hn hst
theorem a_gsl {ta : TE} {f : Str} {v : V} {R : L2.St → Hp → Prop} (h : ta σ H fun x H2 => ∃ a C dx p vs i, x = .ref a ∧ SlX.Slt H2 a C dx vs ∧ SlX.SCls K C ∧ SlX.Slot1 K C f p i ∧ R σ (SlX.slH H2 a C dx (SlX.putS i v vs))) : gSl K ta f v σ H R := h
/-- a slot is stored -/
theorem a_put {R : Hp → Prop} {a C dx p : Addr} {f : Str} {vs : List (Option V)} {i : Nat} {y : V} (c : SlX.SCls K C) (s : SlX.Slot1 K C f p i) (e : SlX.Slt H a C dx vs) (h : R (SlX.slH H a C dx (SlX.putS i y vs))) :
    ∃ a' C dx p vs i, V.ref a = .ref a' ∧ SlX.Slt H a' C dx vs ∧ SlX.SCls K C ∧ SlX.Slot1 K C f p i ∧ R (SlX.slH H a' C dx (SlX.putS i y vs)) := ⟨a, C, dx, p, vs, i, rfl, e, c, s, h⟩
theorem a_isiSl {u : Value} {a C dx : Addr} {vs : List (Option V)} {c : V} {b : Bool} (r : RelV c u) (un : ∀ w, RelV c w → w = u) (e : SlX.Slt H a C dx vs) (s : SlX.SCls K C) (i : SlX.SIsi K C) (k : PySem.W.kitOne K (.ref C) u = some b) (h : Q (.bl b) H) : SlX.rIsiSl K u [.ref a, c] H Q :=
  ⟨a, C, dx, vs, c, b, rfl, r, un, e, s, i, k, h⟩
theorem a_mk {C : Addr} {sp : Sp} {dvs : List V} {E : XK} {t : TA} (h : t σ H fun vs H1 => ∀ x dx, H1 x = none → H1 dx = none → dx ≠ x → sp (.ref x :: (vs ++ dvs)) (upd (upd H1 dx (.own x)) x (.ins C dx [])) (fun v H2 => v = .non ∧ Q (.ref x) H2) E) : tMake C sp dvs E t σ H Q := h
theorem a_dget2 {td ty tx : TE} (h : td σ H fun x H1 => ∃ a, x = .ref a ∧ IsD H1 a ∧ ty σ H1 fun y H2 => tx σ H2 fun z H3 => ∃ o, DGet H3 a y o ∧ Q (o.getD z) H3) : tDGet2 td ty tx σ H Q := h
theorem a_dnewT (h : newO (.dT []) Q H) : tDNewT σ H Q := h
theorem slt_ne {a C dx : Addr} {vs : List (Option V)} {H0 : Hp} (e : SlX.Slt H0 a C dx vs) (hne : dx ≠ a) {v : V} {i : Nat} : SlX.Slt (SlX.slH H0 a C dx (SlX.putS i v vs)) a C dx (SlX.putS i v vs) := SlX.slH_slt hne
end
section
variable {P : Program} {w : World} {K : PySem.W.Frag} {mg : Str → Option Value} {base : Heap}
/-- all but the instance at x and its dict stays -/
def But2 (x dx : Addr) (H H' : Hp) : Prop := ∀ b o, b ≠ x → b ≠ dx → H b = some o → H' b = some o
theorem But2.refl (x dx : Addr) (H : Hp) : But2 x dx H H := fun _ _ _ _ e => e
theorem But2.same {x dx : Addr} {H H1 H2 : Hp} (a : But2 x dx H H1) (S : Same H1 H2) : But2 x dx H H2 := fun b o h1 h2 e => S _ _ (a b o h1 h2 e)
theorem But2.slH {x dx C : Addr} {H H1 : Hp} {vs : List (Option V)} (a : But2 x dx H H1) : But2 x dx H (SlX.slH H1 x C dx vs) := fun b o h1 h2 e => by rw [SlX.slH_ne h1 h2]; exact a b o h1 h2 e
theorem But2.fresh {x dx C : Addr} {H H2 : Hp} (n1 : H x = none) (n2 : H dx = none) (a : But2 x dx (upd (upd H dx (.own x)) x (.ins C dx [])) H2) : Same H H2 := fun b o e => by
  have h1 := ne_of_none e n1
  have h2 := ne_of_none e n2
  exact a b o h1 h2 (by rw [upd_ne h1, upd_ne h2]; exact e)
theorem mak_of {x q : Str} {st : Stmt} {C f : Addr} {N ps : List Str} {k : Nat} {sp : Sp} (M : Mk K C f) (m : mg x = some (.ref C)) (F : ∃ fd, FunD K "__init__" q (defArgs st) (defBody st) (defScope st) [] [] f fd) (S : FnScope N ps (defScope st)) (len : ∀ vs H Q E, sp vs H Q E → vs.length = ps.length)
    (hb : ∀ (kV doc pm : Value) (an : Option Addr) (cdv ct : Value) (us : List Value), us.length = ps.length → bindArgs (PySem.W.fnOf "__init__" q (defArgs st) (defBody st) (defScope st) .none kV doc pm an cdv ct) ⟨us, []⟩ = pure (ps.zip us))
    (hbody : ∀ (cdv : Value) (A : Around) (outer : List Env) (s : Shared) (H : Hp) (vs : List V) (Q : VK) (E : XK), Room k (A.deeper (envOfC q (defScope st) s.heap.objs.size f cdv)) → sp vs H Q E →
      ∃ t, PSs (cxOf C8.CX0 P w K mg base N q (defScope st) f cdv A outer s H E).nox (defBody st) t ∧ t ⟨fun _ H' => Q .non H', Q, fun _ _ => False, fun _ _ => False⟩ (start N vs) H) : C8.Mak P w K mg base (k + 1) x C sp [] := by
  obtain ⟨fd, F, b⟩ := fnr_of F S len hb hbody
  exact ⟨f, fd, ps, [], M, F, m, b, .nil⟩
end
/-! ## list comprehensions: item by item -/
/-- the turns of a list comprehension over J, told of the new list's address -/
def lcGo (J : It) (g : TG) (tt : TT) (te : TE) (vs : List Nat) (σ : L2.St) (Q : VK) (H1 : Hp) : Prop := ∀ D, H1 D = none → ∃ W : Nat → Nat → Hp → Prop, (∃ m, W 0 m (upd H1 D (.lst []))) ∧ ∀ i m H, W i m H →
      (J.stop i H ∧ Q (.ref D) H) ∨ (J.go i H ∧ ∃ Then : Hp → Prop, (∀ H', Then H' → ∃ m', m' < m ∧ W (i + 1) m' H') ∧ ∀ x H', J.yld i H x H' → g x (wipe σ vs) H' fun σ2 H2 => wipe σ2 vs = wipe σ vs ∧ tt σ2 H2 fun b H3 =>
        if b = true then te σ2 H3 fun y H4 => ∃ acc, H4 D = some (.lst acc) ∧ acc.length < sizeLine ∧ Then (upd H4 D (.lst (acc ++ [y]))) else Then H3)
theorem lc_any {J : It} {g : TG} {tt : TT} {te : TE} {vs : List Nat} {σ : L2.St} {H1 : Hp} {Q : VK} {n : Nat} (o : Nat → Option V) (hn : n ≤ 1000) (hgo : ∀ i H', i < n → Same H1 H' → J.go i H') (hst : ∀ H', Same H1 H' → J.stop n H')
    (hs : ∀ i x H' H'' (R : VK) (N : Hp → Prop), i < n → Same H1 H' → J.yld i H' x H'' → (∀ y H4, o i = some y → Same H' H4 → R y H4) → (∀ H4, o i = none → Same H' H4 → N H4) →
      g x (wipe σ vs) H'' fun σ2 H2 => wipe σ2 vs = wipe σ vs ∧ tt σ2 H2 fun b H3 => if b = true then te σ2 H3 R else N H3)
    (hQ : ∀ D H', Same H1 H' → H1 D = none → H' D = some (.lst ((List.range n).filterMap o)) → Q (.ref D) H') :
    lcGo J g tt te vs σ Q H1 := by
  intro D hD
  refine ⟨fun i m H => m = n - i ∧ i ≤ n ∧ Same H1 H ∧ H D = some (.lst ((List.range i).filterMap o)), ⟨n, by omega, Nat.zero_le _, same_new hD, upd_same⟩, ?_⟩
  rintro i m H ⟨rfl, hi, S, hL⟩
  by_cases e : i = n
  · subst e
    exact .inl ⟨hst H S, hQ D H S hD hL⟩
  · have lt : i < n := by omega
    refine .inr ⟨hgo i H lt S, fun H' => Same H1 H' ∧ H' D = some (.lst ((List.range (i + 1)).filterMap o)), fun H' h => ⟨n - (i + 1), by omega, rfl, lt, h.1, h.2⟩, fun x H' hy => ?_⟩
    refine hs i x H H' _ _ lt S hy (fun y H4 ho S4 => ?_) fun H4 ho S4 => ?_
    · refine ⟨_, S4 _ _ hL, Nat.lt_of_le_of_lt (List.length_filterMap_le _ _) (by rw [List.length_range]; exact small1000 (by omega)), same_upd (S.trans S4) hD, ?_⟩
      rw [upd_same, List.range_succ, List.filterMap_append]
      simp only [List.filterMap_cons, List.filterMap_nil, ho]
    · refine ⟨S.trans S4, ?_⟩
      rw [S4 _ _ hL, List.range_succ, List.filterMap_append]
      simp only [List.filterMap_cons, List.filterMap_nil, ho, List.append_nil]
section
variable {K : PySem.W.Frag} {σ : L2.St} {H : Hp} {Q : VK}
theorem a_lc {wi : TI} {g : TG} {tt : TT} {te : TE} {vs : List Nat} (h : wi σ H fun J H1 => lcGo J g tt te vs σ Q H1) : tLc wi g tt te vs σ H Q := h
theorem a_itup {tl : TE} {R : It → Hp → Prop} (h : tl σ H fun x H1 => ∃ a, x = .ref a ∧ (∃ xs, SqT K H1 a xs) ∧ R (Itt K a) H1) : iTup K tl σ H R := h
theorem a_ilst {tl : TE} {R : It → Hp → Prop} (h : tl σ H fun x H1 => ∃ a, x = .ref a ∧ (∃ xs, SqL K H1 a xs) ∧ R (Itl K a) H1) : iList K tl σ H R := h
theorem a_itT {a : Addr} {xs : List V} {R : It → Hp → Prop} (e : SqT K H a xs) (h : R (Itt K a) H) : ∃ a', V.ref a = .ref a' ∧ (∃ xs, SqT K H a' xs) ∧ R (Itt K a') H := ⟨a, rfl, ⟨xs, e⟩, h⟩
theorem a_itL {a : Addr} {xs : List V} {R : It → Hp → Prop} (e : SqL K H a xs) (h : R (Itl K a) H) : ∃ a', V.ref a = .ref a' ∧ (∃ xs, SqL K H a' xs) ∧ R (Itl K a') H := ⟨a, rfl, ⟨xs, e⟩, h⟩
/-- over a tuple -/
theorem lc_ofT {a : Addr} {xs : List V} {g : TG} {tt : TT} {te : TE} {vs : List Nat} (e : SqT K H a xs) (hn : xs.length ≤ 1000) (o : Nat → Option V)
    (hs : ∀ i x H' (R : VK) (N : Hp → Prop), xs[i]? = some x → Same H H' → (∀ y H4, o i = some y → Same H' H4 → R y H4) → (∀ H4, o i = none → Same H' H4 → N H4) → g x (wipe σ vs) H' fun σ2 H2 => wipe σ2 vs = wipe σ vs ∧ tt σ2 H2 fun b H3 => if b = true then te σ2 H3 R else N H3)
    (hQ : ∀ D H', Same H H' → H D = none → H' D = some (.lst ((List.range xs.length).filterMap o)) → Q (.ref D) H') :
    lcGo (Itt K a) g tt te vs σ Q H := by
  refine lc_any (n := xs.length) o hn (fun i H' hi S => ⟨xs, xs[i], sqT_same S e, List.getElem?_eq_getElem hi⟩) (fun H' S => ⟨xs, sqT_same S e, Nat.le_refl _⟩) (fun i x H' H'' R N hi S hy h1 h2 => ?_) hQ
  obtain ⟨rfl, hx⟩ := hy
  exact hs i x H'' R N (hx xs (sqT_same S e)) S h1 h2
/-- over a list -/
theorem lc_ofL {a : Addr} {xs : List V} {g : TG} {tt : TT} {te : TE} {vs : List Nat} (e : SqL K H a xs) (hn : xs.length ≤ 1000) (o : Nat → Option V)
    (hs : ∀ i x H' (R : VK) (N : Hp → Prop), xs[i]? = some x → Same H H' → (∀ y H4, o i = some y → Same H' H4 → R y H4) → (∀ H4, o i = none → Same H' H4 → N H4) → g x (wipe σ vs) H' fun σ2 H2 => wipe σ2 vs = wipe σ vs ∧ tt σ2 H2 fun b H3 => if b = true then te σ2 H3 R else N H3)
    (hQ : ∀ D H', Same H H' → H D = none → H' D = some (.lst ((List.range xs.length).filterMap o)) → Q (.ref D) H') :
    lcGo (Itl K a) g tt te vs σ Q H := by
  refine lc_any (n := xs.length) o hn (fun i H' hi S => ⟨xs, xs[i], S.seq e, List.getElem?_eq_getElem hi⟩) (fun H' S => ⟨xs, S.seq e, Nat.le_refl _⟩) (fun i x H' H'' R N hi S hy h1 h2 => ?_) hQ
  obtain ⟨rfl, hx⟩ := hy
  exact hs i x H'' R N (hx xs (S.seq e)) S h1 h2
/-- every item, mapped -/
theorem fm_map {α : Type} (xs : List α) (f : α → V) : (List.range xs.length).filterMap (fun i => xs[i]?.map f) = xs.map f := by
  induction xs with
  | nil => rfl
  | cons x xs ih =>
    rw [List.length_cons, List.range_succ_eq_map, List.filterMap_cons, List.filterMap_map]
    show f x :: _ = _
    rw [List.map_cons]
    exact congrArg _ ih
theorem a_yes {R : Bool → Hp → Prop} (h : R true H) : tYes σ H R := h
theorem all_yes (n : Nat) : (List.range n).filterMap (fun _ => some (V.bl true)) = (List.replicate n true).map V.bl := by
  induction n with
  | zero => rfl
  | succ n ih => rw [List.range_succ, List.filterMap_append, ih, List.replicate_succ', List.map_append]; rfl
theorem a_allT {D : Addr} {n : Nat} (e : H D = some (.lst ((List.range n).filterMap fun _ => some (V.bl true)))) (h : Q (.bl true) H) : rAll K [.ref D] H Q := by
  refine ⟨D, List.replicate n true, rfl, SqL.of (by rw [e, all_yes]), ?_⟩
  rw [show (List.replicate n true).all id = true by rw [List.all_eq_true]; intro x hx; exact (List.eq_of_mem_replicate hx)]
  exact h
theorem a_lockE {t : TE} {d : Addr} {u : HO} (e : H d = some u) (m : Mut (some u)) (h : ∀ od, t σ (upd H d (.frz od u)) fun v H' => H' d = some (.frz od u) ∧ Q v (upd H' d u)) : tLockE t σ H Q := ⟨d, u, e, m, h⟩
theorem a_iitems {td : TE} {R : It → Hp → Prop} (h : td σ H fun x H1 => ∃ d o kvs, x = .ref d ∧ H1 d = some (.frz o (.dK kvs)) ∧ R (Iti d o kvs) H1) : iItems td σ H R := h
def rLenD : List V → Hp → VK → Prop := fun xs H Q => ∃ a kvs, xs = [V.ref a] ∧ H a = some (.dK kvs) ∧ Q (.int kvs.length) H
theorem call_lenD0 {X : Cx} : CallR X (.builtin "len") rLenD := call_lenD
theorem a_lenD {a : Addr} {kvs : List (Key × V)} (e : H a = some (.dK kvs)) (h : Q (.int kvs.length) H) : rLenD [.ref a] H Q := ⟨a, kvs, rfl, e, h⟩
/-- behind a lock -/
theorem unlock_same {H H' : Hp} {d : Addr} {od : Obj} {u : HO} (e : H d = some u) (S : Same (upd H d (.frz od u)) H') : Same H (upd H' d u) := fun b o h => by
  by_cases hb : b = d
  · subst hb
    rw [e] at h
    rw [upd_same, ← h]
  · rw [upd_ne hb]
    exact S _ _ (by rw [upd_ne hb]; exact h)
theorem tyT {a : Addr} {xs : List V} (h : SqT K H a xs) : TyX K H (.ref a) (.type "tuple") := by
  rcases h with (h | ⟨o, h⟩) | ⟨o, its, n, h, c, _⟩
  · exact .base (.tup h)
  · exact .fTuple h
  · exact .kTuple h c
/-- sorted(d), the keys ints -/
def rSortD : List V → Hp → VK → Prop := fun xs H Q => ∃ (a : Addr) (kvs : List (Key × V)) (ks : List Int), xs = [.ref a] ∧ Rd H a (.dK kvs) ∧ kvs.map (·.1) = ks.map Sum.inl ∧ ks.length < 64 ∧
    ∀ (ys : List Int) (p : Addr), ys.Perm ks → ys.Pairwise (· ≤ ·) → H p = none → Q (.ref p) (upd H p (.lst (ys.map V.int)))
theorem call_sortD {X : Cx} (hc : X.calm = true) : CallR X (.builtin "sorted") rSortD := call_sortedDI hc
theorem a_sortD {a : Addr} {kvs : List (Key × V)} {ks : List Int} (e : H a = some (.dK kvs)) (hk : kvs.map (·.1) = ks.map Sum.inl) (hl : ks.length < 64) (h : ∀ ys : List Int, ys.Perm ks → ys.Pairwise (· ≤ ·) → newO (.lst (ys.map V.int)) Q H) : rSortD [.ref a] H Q :=
  ⟨a, kvs, ks, rfl, .inl e, hk, hl, fun ys p h1 h2 => h ys h1 h2 p⟩
theorem sorted_self {ks ys : List Int} (h : ys.Perm ks) (h1 : ys.Pairwise (· ≤ ·)) (h2 : ks.Pairwise (· < ·)) : ys = ks :=
  List.Perm.eq_of_pairwise (le := (· ≤ ·)) (fun a b _ _ => Int.le_antisymm) h1 (h2.imp fun {a b} h => Int.le_of_lt h) h
/-- the turns of a dict comprehension -/
def dcGo (J : It) (g : TG) (tt : TT) (tk tv : TE) (vs : List Nat) (σ : L2.St) (Q : VK) (H1 : Hp) : Prop := ∀ D, H1 D = none → ∃ W : Nat → Nat → Hp → Prop, (∃ m, W 0 m (upd H1 D (.dK []))) ∧ ∀ i m H, W i m H →
  (J.stop i H ∧ Q (.ref D) H) ∨ (J.go i H ∧ ∃ Then : Hp → Prop, (∀ H', Then H' → ∃ m', m' < m ∧ W (i + 1) m' H') ∧ ∀ x H', J.yld i H x H' → g x (wipe σ vs) H' fun σ2 H2 => wipe σ2 vs = wipe σ vs ∧ tt σ2 H2 fun b H3 =>
    if b = true then tk σ2 H3 fun y H4 => tv σ2 H4 fun z H5 => ∃ kvs k, y = kV k ∧ H5 D = some (.dK kvs) ∧ kvs.length < sizeLine ∧ Then (upd H5 D (.dK (putK kvs k z))) else Then H3)
theorem a_dc {wi : TI} {g : TG} {tt : TT} {tk tv : TE} {vs : List Nat} (h : wi σ H fun J H1 => dcGo J g tt tk tv vs σ Q H1) : tDc wi g tt tk tv vs σ H Q := h
/-- over a list of different keys: every item gives its key and value -/
theorem dc_ofL {a : Addr} {ks : List Int} {g : TG} {tk tv : TE} {vs : List Nat} (e : SqL K H a (ks.map V.int)) (hn : ks.length ≤ 1000) (nd : ks.Nodup) (f : Int → V)
    (hs : ∀ k H' (R : V → V → Hp → Prop), k ∈ ks → Same H H' → (∀ H4, Same H' H4 → R (.int k) (f k) H4) → g (.int k) (wipe σ vs) H' fun σ2 H2 => wipe σ2 vs = wipe σ vs ∧ tYes σ2 H2 fun b H3 => if b = true then tk σ2 H3 fun y H4 => tv σ2 H4 fun z H5 => R y z H5 else False)
    (hQ : ∀ D H', Same H H' → H D = none → H' D = some (.dK (ks.map fun k => (.inl k, f k))) → Q (.ref D) H') : dcGo (Itl K a) g tYes tk tv vs σ Q H := by
  intro D hD
  refine ⟨fun i m H' => m = ks.length - i ∧ i ≤ ks.length ∧ Same H H' ∧ H' D = some (.dK ((ks.take i).map fun k => (.inl k, f k))), ⟨ks.length, by omega, Nat.zero_le _, same_new hD, upd_same⟩, ?_⟩
  rintro i m H' ⟨rfl, hi, S, hL⟩
  by_cases h : i = ks.length
  · subst h
    rw [List.take_length] at hL
    exact .inl ⟨⟨_, S.seq e, by rw [List.length_map]; exact Nat.le_refl _⟩, hQ D H' S hD hL⟩
  · have lt : i < ks.length := by omega
    have hk : ks[i]? = some ks[i] := List.getElem?_eq_getElem lt
    refine .inr ⟨⟨_, _, S.seq e, by rw [List.getElem?_map, hk]; rfl⟩, fun H' => Same H H' ∧ H' D = some (.dK ((ks.take (i + 1)).map fun k => (.inl k, f k))), fun H' z => ⟨ks.length - (i + 1), by omega, rfl, lt, z.1, z.2⟩, fun x H'' hy => ?_⟩
    obtain ⟨rfl, hx⟩ := hy
    have hx' := hx _ (S.seq e)
    rw [List.getElem?_map, hk] at hx'
    cases hx'
    have key := hs ks[i] H'' (fun y z H5 => ∃ kvs k, y = kV k ∧ H5 D = some (.dK kvs) ∧ kvs.length < sizeLine ∧ (Same H (upd H5 D (.dK (putK kvs k z))) ∧ upd H5 D (.dK (putK kvs k z)) D = some (.dK ((ks.take (i + 1)).map fun k => (.inl k, f k))))) (List.getElem_mem lt) S fun H4 S4 => ?_
    · exact key
    · refine ⟨_, .inl ks[i], rfl, S4 _ _ hL, by rw [List.length_map, List.length_take]; exact small1000 (by omega), same_upd (S.trans S4) hD, ?_⟩
      have new : valV ((ks.take i).map fun k => ((.inl k : Key), f k)) (.inl ks[i]) = none := by
        cases hv : valV ((ks.take i).map fun k => ((.inl k : Key), f k)) (.inl ks[i]) with
        | none => rfl
        | some z =>
          have m1 := valV_in hv
          rw [List.map_map] at m1
          obtain ⟨y, hy, ey⟩ := List.mem_map.mp m1
          cases ey
          obtain ⟨j, hj, ej⟩ := List.getElem_of_mem hy
          rw [List.length_take] at hj
          rw [List.getElem_take] at ej
          have := (List.getElem_inj nd).mp ej
          omega
      rw [upd_same, putK_new _ new, List.take_succ_eq_append_getElem lt, List.map_append]
      rfl
theorem a_repT {l : Addr} {k : Int} {xs : List V} (e : SqT K H l xs) (h0 : xs ≠ []) (h1 : 2 ≤ k ∧ k ≤ 1000) (h2 : xs.length ≤ 1000) (h : newO (.tup (List.replicate k.toNat xs).flatten) Q H) : rRepT K (.ref l) (.int k) H Q := ⟨l, k, xs, rfl, rfl, e, h0, h1.1, h1.2, h2, h⟩
def rIsN : R2 := fun one two H Q => two = .non ∧ Q (.bl (decide (one = .non))) H
theorem op_isN0 {X : Cx} : OpR X (compareOp .Is) rIsN := op_isN
def rNotN : R2 := fun one two H Q => two = .non ∧ Q (.bl (!decide (one = .non))) H
theorem op_notN0 {X : Cx} : OpR X (compareOp .IsNot) rNotN := op_notN
theorem a_isN0 {x : V} (h : Q (.bl (decide (x = .non))) H) : rIsN x .non H Q := ⟨rfl, h⟩
theorem a_notN0 {x : V} (h : Q (.bl (!decide (x = .non))) H) : rNotN x .non H Q := ⟨rfl, h⟩
theorem a_izip {ta : TA} {R : It → Hp → Prop} (h : ta σ H fun vs H1 => ∃ a b xs ys, vs = [.ref a, .ref b] ∧ ((SqL K H1 a xs ∧ SqL K H1 b ys ∧ R (Itz K a b) H1) ∨ (SqT K H1 a xs ∧ SqT K H1 b ys ∧ R (RZ.ItzT K a b) H1))) : RZ.iZipA K ta σ H R := h
theorem a_dget {td ty : TE} (h : td σ H fun x H1 => ty σ H1 fun y H2 => ∃ a v, x = .ref a ∧ DGet H2 a y (some v) ∧ Q v H2) : tDGet td ty σ H Q := h
theorem a_propSl {C : Addr} {sp : Sp} {E : XK} {ta : TE} (h : ta σ H fun x H1 => ∃ a dx vs, x = .ref a ∧ SlX.Slt H1 a C dx vs ∧ sp [.ref a] H1 Q E) : SlX.tPropSl C sp E ta σ H Q := h
theorem a_methSl {C : Addr} {sp : Sp} {E : XK} {ta : TE} {t : TA} (h : ta σ H fun x H1 => ∃ a dx vs, x = .ref a ∧ SlX.Slt H1 a C dx vs ∧ t σ H1 fun ws H2 => sp (x :: ws) H2 Q E) : SlX.tMethSl C sp E ta t σ H Q := h
end
end K83
end
section
set_option maxRecDepth 100000
set_option maxHeartbeats 4000000
namespace K83
open PySem PySem.Spec PyProof.Rows L2
local macro_rules | `(tactic| walk_at "s") => `(tactic| first
  | with_reducible refine a_seq ?_ | ((with_reducible refine a_varX ?_); refine ⟨_, rfl, ?_⟩) | with_reducible refine a_c ?_ | with_reducible refine a_op ?_ | with_reducible refine a_rI0 ?_ | with_reducible refine a_cons ?_ | with_reducible refine a_nil ?_
  | with_reducible refine a_next ?_ | with_reducible refine a_ret ?_ | with_reducible refine a_retN ?_ | with_reducible refine a_drop ?_ | with_reducible refine a_if ?_ | with_reducible refine a_asg ?_ | with_reducible refine a_un ?_
  | with_reducible refine a_rU ?_ | with_reducible refine a_eqI ?_ | with_reducible refine a_neI ?_ | with_reducible refine a_eqS ?_ | with_reducible refine a_neS ?_ | with_reducible refine a_test ?_ | with_reducible refine a_tB ?_ | with_reducible refine a_bl ?_ | with_reducible refine a_int ?_
  | with_reducible refine a_and ?_ | with_reducible refine a_or ?_ | with_reducible refine a_not ?_ | with_reducible refine a_andV ?_ | with_reducible refine a_orV ?_ | with_reducible refine a_notV ?_ | with_reducible refine a_ifE ?_ | with_reducible refine a_chain ?_ | with_reducible refine a_call ?_ | with_reducible refine a_cb ?_ | with_reducible refine a_star ?_
  | ((with_reducible refine a_nameX ?_); refine ⟨_, (by simp only [L2.wipe, L2.start, List.map_cons, List.map_nil, List.length_cons, List.length_nil, List.replicate_succ, List.replicate_zero, Nat.reduceSub, Nat.reduceAdd, Nat.zero_add, List.cons_append, List.nil_append, List.set_cons_zero, List.set_cons_succ]; exact rfl), ?_⟩) | with_reducible refine a_gcons ?_ | with_reducible refine a_gnil ?_ | with_reducible refine a_gsub ?_ | with_reducible refine a_par ?_ | ((with_reducible refine a_parX rfl ?_); refine ⟨_, (by simp only [L2.wipe, L2.start, List.map_cons, List.map_nil, List.length_cons, List.length_nil, List.replicate_succ, List.replicate_zero, Nat.reduceSub, Nat.reduceAdd, Nat.zero_add, List.cons_append, List.nil_append, List.set_cons_zero, List.set_cons_succ]; exact rfl), ?_⟩) | ((with_reducible refine a_augX ?_); refine ⟨_, rfl, ?_⟩) | with_reducible refine a_ipI ?_ | with_reducible refine a_tup ?_ | with_reducible refine a_lst ?_ | with_reducible refine a_sl ?_ | with_reducible refine a_sslX ?_
  | with_reducible refine a_tsl ?_ | with_reducible refine a_noPart ?_ | with_reducible refine a_part ?_ | with_reducible refine a_i1 ?_ | with_reducible refine a_i1b ?_ | with_reducible refine a_mx ?_ | with_reducible refine a_mn ?_ | with_reducible refine a_ab ?_ | with_reducible refine a_mat ?_ | with_reducible refine a_case ?_
  | ((with_reducible refine a_oneS ?_ ?_); omega) | ((with_reducible refine a_mask 1 ?_ ?_); decide) | ((with_reducible refine a_mask 3 ?_ ?_); decide) | ((with_reducible refine a_mask 6 ?_ ?_); decide) | ((with_reducible refine a_mask 9 ?_ ?_); decide) | ((with_reducible refine a_rI ?_ ?_); first | exact ⟨by decide, by decide⟩ | decide)
  | ((with_reducible refine a_shlK 12 ?_ ?_ ?_); rfl; exact shl_small (by omega) (by omega) (by decide)) | ((with_reducible refine a_shlK 9 ?_ ?_ ?_); rfl; exact shl_small (by omega) (by omega) (by decide)) | ((with_reducible refine a_shlK 6 ?_ ?_ ?_); rfl; exact shl_small (by omega) (by omega) (by decide)) | with_reducible refine a_kdGet ?_
  | with_reducible refine a_bm0 ?_ | with_reducible refine a_bm ?_ | with_reducible refine a_dnewT ?_ | with_reducible refine a_gsl ?_ | with_reducible refine a_mk ?_
  | with_reducible refine a_dget2 ?_ | with_reducible refine a_dnewK ?_ | with_reducible refine a_tli ?_ | with_reducible refine a_pair ?_ | with_reducible refine a_pair0 ?_
  | with_reducible refine a_lc ?_ | with_reducible refine a_itup ?_ | with_reducible refine a_ilst ?_ | with_reducible refine a_yes ?_ | with_reducible refine a_iitems ?_ | with_reducible refine a_dc ?_ | with_reducible refine a_isN0 ?_ | with_reducible refine a_notN0 ?_ | with_reducible refine a_izip ?_ | with_reducible refine a_dget ?_ | with_reducible refine a_propSl ?_ | with_reducible refine a_methSl ?_ | with_reducible refine a_for ?_ | with_reducible refine a_rng1 ?_ | with_reducible refine a_rng2 ?_
  | with_reducible refine iteT ?_ | with_reducible refine iteF ?_)
local macro_rules | `(tactic| walk_at "t") => `(tactic| refine ⟨Nat.le_of_ble_eq_true rfl, a_new ?_⟩)
local macro_rules | `(tactic| walk_at "w") => `(tactic| repeat walk_at "s")
local macro_rules | `(tactic| walk_at "t0") => `(tactic| refine ⟨Nat.le_of_ble_eq_true rfl, ?_⟩)
section
variable {P : Program} {w : World} {K : PySem.W.Frag} {mg : Str → Option Value} {base : Heap}
/-! ### is_integer -/
theorem sc_is_integer : FnScope ["value"] ["value"] (defScope (top 14)) := ⟨rfl, rfl, rfl, by decide +kernel, rfl, by decide +kernel, by decide +kernel⟩
abbrev sp_is_integer : Sp := fun vs H Q _ => ∃ i : Int, vs = [.int i] ∧ ∀ H', Same H H' → Q (.bl true) H'
theorem ok_is_integer (T : Txt w K mg base) : C8.Cal P w K mg base 1 "is_integer" sp_is_integer [] := by
  refine cal_of T.f_is_integer T.m_is_integer sc_is_integer (fun vs H Q E h => ?_) (fun _ _ _ _ _ _ us hl => match us, hl with | [_], _ => rfl) fun cdv A outer s H vs Q E hr h => ?_
  · obtain ⟨i, rfl, _⟩ := h; rfl
  obtain ⟨i, rfl, q⟩ := h
  refine ⟨_, pss_one (ps_ret (pe_and (pe_callB call_isi (by rfl) T.n_isinstance (by decide +kernel) (pa_cons (pv 0) (pa_cons (pe_bltn (v := .ty "int") (by rfl) T.n_int (by decide +kernel) rfl) pa_nil))) (pe_one (pe_not (pe_callB call_isi (by rfl) T.n_isinstance (by decide +kernel) (pa_cons (pv 0) (pa_cons (pe_bltn (v := .ty "bool") (by rfl) T.n_bool (by decide +kernel) rfl) pa_nil))))))), ?_⟩
  walk_at "w"
  refine a_isi (.ty _) (.base (.int _)) (kit_ty (r := true) (by decide +kernel)) ?_
  walk_at "w"
  refine a_isi (.ty _) (.base (.int _)) (kit_ty (r := false) (by decide +kernel)) ?_
  walk_at "w"
  exact q _ (Same.refl _)
/-! ### is_within -/
theorem sc_is_within : FnScope ["value", "least", "most"] ["value", "least", "most"] (defScope (top 16)) := ⟨rfl, rfl, rfl, by decide +kernel, rfl, by decide +kernel, by decide +kernel⟩
abbrev sp_is_within : Sp := fun vs H Q _ => ∃ a b c : Int, vs = [.int a, .int b, .int c] ∧ ∀ H', Same H H' → Q (.bl (decide (b ≤ a ∧ a ≤ c))) H'
theorem ok_is_within (T : Txt w K mg base) : C8.Cal P w K mg base 2 "is_within" sp_is_within [] := by
  refine cal_of T.f_is_within T.m_is_within sc_is_within (fun vs H Q E h => ?_) (fun _ _ _ _ _ _ us hl => match us, hl with | [_, _, _], _ => rfl) fun cdv A outer s H vs Q E hr h => ?_
  · obtain ⟨_, _, _, rfl, _⟩ := h; rfl
  obtain ⟨a, b, c, rfl, q⟩ := h
  refine ⟨_, pss_one (ps_ret (pe_and (C8.pe_c (ok_is_integer T) hr (by omega) rfl (pa_cons (pv 0) pa_nil)) (pe_one (pe_chain op_le op_le (pv 1) (pv 0) (pv 2))))), ?_⟩
  walk_at "w"
  refine ⟨a, rfl, fun H1 S1 => ?_⟩
  walk_at "w"
  refine d_ite (fun h1 => ?_) fun h1 => ?_
  · walk_at "w"
    rw [show decide (a ≤ c) = decide (b ≤ a ∧ a ≤ c) from decide_eq_decide.mpr (by omega)]
    exact q _ S1
  · rw [show false = decide (b ≤ a ∧ a ≤ c) from (decide_eq_false (by omega)).symm]
    exact q _ S1
/-! ### is_step_word -/
theorem sc_is_step_word : FnScope ["value"] ["value"] (defScope (top 38)) := ⟨rfl, rfl, rfl, by decide +kernel, rfl, by decide +kernel, by decide +kernel⟩
abbrev sp_is_step_word : Sp := fun vs H Q _ => ∃ a : Int, vs = [.int a] ∧ ∀ H', Same H H' → Q (.bl (decide (0 ≤ a ∧ a ≤ 65535))) H'
theorem ok_is_step_word (T : Txt w K mg base) : C8.Cal P w K mg base 3 "is_step_word" sp_is_step_word [] := by
  refine cal_of T.f_is_step_word T.m_is_step_word sc_is_step_word (fun vs H Q E h => ?_) (fun _ _ _ _ _ _ us hl => match us, hl with | [_], _ => rfl) fun cdv A outer s H vs Q E hr h => ?_
  · obtain ⟨_, rfl, _⟩ := h; rfl
  obtain ⟨a, rfl, q⟩ := h
  refine ⟨_, pss_one (ps_ret (C8.pe_c (ok_is_within T) hr (by omega) rfl (pa_cons (pv 0) (pa_cons (pe_int) (pa_cons (C8.pe_gc rfl T.c_NO_WORD) pa_nil))))), ?_⟩
  walk_at "w"
  refine ⟨a, 0, 65535, rfl, fun H1 S1 => ?_⟩
  exact q _ S1
/-! ### fields_in -/
theorem sc_fields_in : FnScope ["word"] ["word"] (defScope (top 46)) := ⟨rfl, rfl, rfl, by decide +kernel, rfl, by decide +kernel, by decide +kernel⟩
abbrev sp_fields_in : Sp := fun vs H Q _ => ∃ x : Int, vs = [.int x] ∧ ∀ p H', H p = none → Same H H' → H' p = some (.tup [.int (x / 4096), .int (x / 512 % 8), .int (x / 64 % 8), .int (x % 64)]) → Q (.ref p) H'
theorem ok_fields_in (T : Txt w K mg base) : C8.Cal P w K mg base 1 "fields_in" sp_fields_in [] := by
  refine cal_of T.f_fields_in T.m_fields_in sc_fields_in (fun vs H Q E h => ?_) (fun _ _ _ _ _ _ us hl => match us, hl with | [_], _ => rfl) fun cdv A outer s H vs Q E hr h => ?_
  · obtain ⟨_, rfl, _⟩ := h; rfl
  obtain ⟨x, rfl, q⟩ := h
  refine ⟨_, pss_one (ps_ret (pe_tup (pa_cons (pe_op op_shr (pv 0) (pe_int)) (pa_cons (pe_op op_mask (pe_op op_shr (pv 0) (pe_int)) (pe_int)) (pa_cons (pe_op op_mask (pe_op op_shr (pv 0) (pe_int)) (pe_int)) (pa_cons (pe_op op_mask (pv 0) (pe_int)) pa_nil)))))), ?_⟩
  walk_at "w"
  walk_at "t"
  intro p H1 n1 S1 e1
  exact q p H1 n1 S1 e1
/-! ### signed_field -/
theorem sc_signed_field : FnScope ["word", "width"] ["word", "width"] (defScope (top 47)) := ⟨rfl, rfl, rfl, by decide +kernel, rfl, by decide +kernel, by decide +kernel⟩
abbrev sp_signed_field : Sp := fun vs H Q _ => ∃ (x : Int) (w : Nat), vs = [.int x, .int (w : Int)] ∧ (1 ≤ w ∧ w ≤ 60) ∧ Wd w x ∧ ∀ H', Same H H' → Q (.int (sg w x)) H'
theorem sg_top {w : Nat} {x : Int} (h : 1 ≤ w) (hx : Wd w x) : x / 2 ^ ((w : Int) - 1).toNat = 1 ↔ 2 * x ≥ 2 ^ w := by
  obtain ⟨m, rfl⟩ : ∃ m, w = m + 1 := ⟨w - 1, by omega⟩
  rw [show (((m + 1 : Nat) : Int) - 1).toNat = m by omega]
  have hp := two_pos m
  have h2 := hx.2
  have h0 := hx.1
  rw [Int.pow_succ] at h2 ⊢
  generalize hM : (2 : Int) ^ m = M at *
  constructor
  · intro e
    have := Int.mul_ediv_add_emod x M
    have := Int.emod_nonneg x (Int.ne_of_gt hp)
    rw [e] at *
    omega
  · intro e
    have e1 : 1 ≤ x / M := (Int.le_ediv_iff_mul_le hp).mpr (by omega)
    have e2 : x / M < 2 := (Int.ediv_lt_iff_lt_mul hp).mpr (by omega)
    omega
theorem ok_signed_field (T : Txt w K mg base) : C8.Cal P w K mg base 1 "signed_field" sp_signed_field [] := by
  refine cal_of T.f_signed_field T.m_signed_field sc_signed_field (fun vs H Q E h => ?_) (fun _ _ _ _ _ _ us hl => match us, hl with | [_, _], _ => rfl) fun cdv A outer s H vs Q E hr h => ?_
  · obtain ⟨_, _, rfl, _⟩ := h; rfl
  obtain ⟨x, m, rfl, q⟩ := h
  refine ⟨_, pss_one (ps_ret (pe_ifExp (pt_cmpR op_eq (pe_op op_shr (pv 0) (pe_op op_sub (pv 1) (pe_int))) (pe_int) (nomark _)) (pe_op op_sub (pv 0) (pe_op op_oneS (pe_int) (pv 1))) (pv 0))), ?_⟩
  obtain ⟨hm, hx, q⟩ := q
  walk_at "w"
  refine a_rI (by omega) ?_
  walk_at "w"
  refine d_ite (fun h1 => ?_) fun h1 => ?_
  · walk_at "w"
    rw [show x - 2 ^ m = sg m x by unfold sg; rw [if_pos ((sg_top hm.1 hx).mp h1)]]
    exact q _ (Same.refl _)
  · walk_at "w"
    rw [show x = sg m x by unfold sg; rw [if_neg fun h => h1 ((sg_top hm.1 hx).mpr h)]]
    exact q _ (Same.refl _)
/-! ### program_word -/
theorem sc_program_word : FnScope ["program", "place"] ["program", "place"] (defScope (top 48)) := ⟨rfl, rfl, rfl, by decide +kernel, rfl, by decide +kernel, by decide +kernel⟩
abbrev sp_program_word (K : PySem.W.Frag) : Sp := fun vs H Q _ => ∃ (a : Addr) (i : Nat) (xs : List Int) (y : Int), vs = [.ref a, .int (i : Int)] ∧ SqT K H a (xs.map V.int) ∧ xs[i]? = some y ∧ ∀ H', Same H H' → Q (.int y) H'
theorem at_map {xs : List Int} {i : Nat} {y : Int} (h : xs[i]? = some y) : (xs.map V.int)[i]? = some (.int y) := by rw [List.getElem?_map, h]; rfl
theorem lt_of_get {α : Type} {xs : List α} {i : Nat} {y : α} (h : xs[i]? = some y) : i < xs.length := (List.getElem?_eq_some_iff.mp h).1
theorem ok_program_word (T : Txt w K mg base) : C8.Cal P w K mg base 1 "program_word" (sp_program_word K) [] := by
  refine cal_of T.f_program_word T.m_program_word sc_program_word (fun vs H Q E h => ?_) (fun _ _ _ _ _ _ us hl => match us, hl with | [_, _], _ => rfl) fun cdv A outer s H vs Q E hr h => ?_
  · obtain ⟨_, _, _, _, rfl, _⟩ := h; rfl
  obtain ⟨a, i, xs, y, rfl, q⟩ := h
  refine ⟨_, pss_one (ps_ret (pe_ifExp (pt_cmpR op_lt (pv 1) (pe_callB call_lenS (by rfl) T.n_len (by decide +kernel) (pa_cons (pv 0) pa_nil)) (nomark _)) (pe_ix ix_tup (pv 0) (pv 1) (fun _ _ => rfl)) (C8.pe_gc rfl T.c_NO_WORD))), ?_⟩
  obtain ⟨ha, hi, q⟩ := q
  walk_at "w"
  refine a_lenT ha ?_
  walk_at "w"
  refine d_t (by rw [List.length_map]; exact Int.ofNat_lt.mpr (lt_of_get hi)) ?_
  walk_at "w"
  refine a_ixT ha (at_of rfl (at_map hi)) ?_
  exact q _ (Same.refl _)
/-! ### reckoned -/
theorem sc_reckoned : FnScope ["width", "op", "one", "two", "most"] ["width", "op", "one", "two"] (defScope (top 49)) := ⟨rfl, rfl, rfl, by decide +kernel, rfl, by decide +kernel, by decide +kernel⟩
abbrev sp_reckoned : Sp := fun vs H Q _ => ∃ (m j : Nat) (a b : Int), vs = [.int (m : Int), .int (j : Int), .int a, .int b] ∧ (4 ≤ m ∧ m ≤ 16) ∧ j < 8 ∧ Wd m a ∧ Wd m b ∧ ∀ H', Same H H' → Q (.int (rk m j a b)) H'
theorem wd_lt {m : Nat} {x : Int} (hm : m ≤ 16) (h : Wd m x) : 0 ≤ x ∧ x < 65536 := by
  refine ⟨h.1, Int.lt_of_lt_of_le h.2 ?_⟩
  have : (2 : Nat) ^ m ≤ 2 ^ 16 := Nat.pow_le_pow_right (by decide) hm
  have h2 : ((2 ^ m : Nat) : Int) ≤ ((2 ^ 16 : Nat) : Int) := Int.ofNat_le.mpr this
  rw [castpow] at h2
  exact h2
theorem ok_reckoned (T : Txt w K mg base) : C8.Cal P w K mg base 2 "reckoned" sp_reckoned [] := by
  refine cal_of T.f_reckoned T.m_reckoned sc_reckoned (fun vs H Q E h => ?_) (fun _ _ _ _ _ _ us hl => match us, hl with | [_, _, _, _], _ => rfl) fun cdv A outer s H vs Q E hr h => ?_
  · obtain ⟨_, _, _, _, rfl, _⟩ := h; rfl
  obtain ⟨m, j, a, b, rfl, q⟩ := h
  refine ⟨_, pss_cons (ps_set (i := 4) sc_reckoned.nd rfl (Or.inl rfl) (pe_op op_sub (pe_op op_oneS (pe_int) (pv 0)) (pe_int)))
  (pss_one (ps_mat (pv 1) (mc_int (pss_one (ps_ret (pe_op op_mask (pe_op op_add (pv 2) (pv 3)) (pv 4))))
    (mc_int (pss_one (ps_ret (pe_op op_mask (pe_op op_sub (pv 2) (pv 3)) (pv 4))))
    (mc_int (pss_one (ps_ret (pe_op op_and (pv 2) (pv 3))))
    (mc_int (pss_one (ps_ret (pe_op op_or (pv 2) (pv 3))))
    (mc_int (pss_one (ps_ret (pe_op op_xor (pv 2) (pv 3))))
    (mc_int (pss_one (ps_ret (pe_callTy call_i1 (by rfl) T.n_int (by decide +kernel) (pa_cons (pe_cmpR op_lt (C8.pe_c (ok_signed_field T) hr (by omega) rfl (pa_cons (pv 2) (pa_cons (pv 0) pa_nil))) (C8.pe_c (ok_signed_field T) hr (by omega) rfl (pa_cons (pv 3) (pa_cons (pv 0) pa_nil))) (nomark _)) pa_nil))))
    (mc_int (pss_one (ps_ret (pe_op op_mask (pe_op op_shl (pv 2) (pe_op op_mod (pv 3) (pe_int))) (pv 4))))
    (mc_any (pss_one (ps_ret (pe_op op_shr (pv 2) (pe_op op_mod (pv 3) (pe_int))))))))))))))), ?_⟩
  obtain ⟨hm, hj, ha, hb, q⟩ := q
  have q0 := q _ (Same.refl _)
  have ha' := wd_lt hm.2 ha
  walk_at "w"
  refine (d_ite (fun h => ?_) fun h0 => ?_)
  · obtain rfl : j = 0 := by omega
    walk_at "w"
    refine a_mask m rfl ?_
    exact q0
  walk_at "w"
  refine (d_ite (fun h => ?_) fun h1 => ?_)
  · obtain rfl : j = 1 := by omega
    walk_at "w"
    refine a_mask m rfl ?_
    exact q0
  walk_at "w"
  refine (d_ite (fun h => ?_) fun h2 => ?_)
  · obtain rfl : j = 2 := by omega
    walk_at "w"
    exact q0
  walk_at "w"
  refine (d_ite (fun h => ?_) fun h3 => ?_)
  · obtain rfl : j = 3 := by omega
    walk_at "w"
    exact q0
  walk_at "w"
  refine (d_ite (fun h => ?_) fun h4 => ?_)
  · obtain rfl : j = 4 := by omega
    walk_at "w"
    exact q0
  walk_at "w"
  refine (d_ite (fun h => ?_) fun h5 => ?_)
  · obtain rfl : j = 5 := by omega
    walk_at "w"
    refine ⟨a, m, rfl, by omega, ha, fun H1 S1 => ?_⟩
    walk_at "w"
    refine ⟨b, m, rfl, by omega, hb, fun H2 S2 => ?_⟩
    walk_at "w"
    have e : (if decide (sg m a < sg m b) = true then (1 : Int) else 0) = rk m 5 a b := by
      show _ = (if sg m a < sg m b then (1 : Int) else 0)
      by_cases h : sg m a < sg m b
      · rw [decide_eq_true h, if_pos rfl, if_pos h]
      · rw [decide_eq_false h, if_neg Bool.false_ne_true, if_neg h]
    show Q (.int (if decide (sg m a < sg m b) = true then (1 : Int) else 0)) H2
    rw [e]
    exact q _ (S1.trans S2)
  have hb16 := Int.emod_nonneg b (show (16 : Int) ≠ 0 by decide)
  have hb17 := Int.emod_lt_of_pos b (show (0 : Int) < 16 by decide)
  walk_at "w"
  refine (d_ite (fun h => ?_) fun h6 => ?_)
  · obtain rfl : j = 6 := by omega
    walk_at "w"
    refine a_rI ⟨hb16, by omega, by omega⟩ ?_
    walk_at "w"
    refine a_mask m rfl ?_
    exact q0
  obtain rfl : j = 7 := by omega
  walk_at "w"
  refine a_rI hb16 ?_
  exact q0
/-! ### parted_words -/
theorem sc_parted_words : FnScope ["width", "kind", "one", "two"] ["width", "kind", "one", "two"] (defScope (top 50)) := ⟨rfl, rfl, rfl, by decide +kernel, rfl, by decide +kernel, by decide +kernel⟩
abbrev sp_parted_words : Sp := fun vs H Q _ => ∃ (m : Nat) (j : Nat) (a b v : Int), vs = [.int (m : Int), .int (j : Int), .int a, .int b] ∧ (4 ≤ m ∧ m ≤ 16) ∧ (4 ≤ j ∧ j ≤ 6) ∧ Wd m a ∧ Wd m b ∧ val2 m (j + 4) a b = some v ∧ ∀ H', Same H H' → Q (.int v) H'
theorem ok_parted_words (T : Txt w K mg base) : C8.Cal P w K mg base 1 "parted_words" sp_parted_words [] := by
  refine cal_of T.f_parted_words T.m_parted_words sc_parted_words (fun vs H Q E h => ?_) (fun _ _ _ _ _ _ us hl => match us, hl with | [_, _, _, _], _ => rfl) fun cdv A outer s H vs Q E hr h => ?_
  · obtain ⟨_, _, _, _, _, rfl, _⟩ := h; rfl
  obtain ⟨m, j, a, b, v, rfl, q⟩ := h
  refine ⟨_, pss_cons (ps_if (pt_cmpR op_eq (pv 1) (C8.pe_gc rfl T.c_TIMES_STEP) (nomark _))
    (pss_one (ps_ret (pe_op op_mask (pe_op op_mul (pv 2) (pv 3)) (pe_op op_sub (pe_op op_oneS (pe_int) (pv 0)) (pe_int)))))
    (pss_nil))
  (pss_one (ps_ret (pe_ifExp (pt_cmpR op_eq (pv 1) (C8.pe_gc rfl T.c_PART_STEP) (nomark _)) (pe_op op_fdiv (pv 2) (pv 3)) (pe_op op_mod (pv 2) (pv 3))))), ?_⟩
  obtain ⟨hm, hj, ha, hb, hv, q⟩ := q
  have ha' := wd_lt hm.2 ha
  have hb' := wd_lt hm.2 hb
  walk_at "w"
  refine d_ite (fun h => ?_) fun h4 => ?_
  · obtain rfl : j = 4 := by omega
    walk_at "w"
    refine a_rI (.inl ⟨by omega, by omega⟩) ?_
    walk_at "w"
    refine a_mask m rfl ?_
    rw [show a * b % 2 ^ m = v from Option.some.inj hv]
    exact q _ (Same.refl _)
  walk_at "w"
  refine d_ite (fun h => ?_) fun h5 => ?_
  · obtain rfl : j = 5 := by omega
    have hv' : (if b = 0 then none else some (a / b)) = some v := hv
    have hb0 : b ≠ 0 := fun e => by rw [if_pos e] at hv'; cases hv'
    rw [if_neg hb0] at hv'
    walk_at "w"
    refine a_rI ⟨by omega, by omega⟩ ?_
    rw [show a / b = v from Option.some.inj hv']
    exact q _ (Same.refl _)
  · obtain rfl : j = 6 := by omega
    have hv' : (if b = 0 then none else some (a % b)) = some v := hv
    have hb0 : b ≠ 0 := fun e => by rw [if_pos e] at hv'; cases hv'
    rw [if_neg hb0] at hv'
    walk_at "w"
    refine a_rI (show 0 < b by omega) ?_
    rw [show a % b = v from Option.some.inj hv']
    exact q _ (Same.refl _)
end
end K83
end
section
set_option maxRecDepth 100000
set_option maxHeartbeats 4000000
namespace K83
open PySem PySem.Spec PyProof.Rows L2
local macro_rules | `(tactic| walk_at "s") => `(tactic| first
  | with_reducible refine a_seq ?_ | ((with_reducible refine a_varX ?_); refine ⟨_, rfl, ?_⟩) | with_reducible refine a_c ?_ | with_reducible refine a_op ?_ | with_reducible refine a_rI0 ?_ | with_reducible refine a_cons ?_ | with_reducible refine a_nil ?_
  | with_reducible refine a_next ?_ | with_reducible refine a_ret ?_ | with_reducible refine a_retN ?_ | with_reducible refine a_drop ?_ | with_reducible refine a_if ?_ | with_reducible refine a_asg ?_ | with_reducible refine a_un ?_
  | with_reducible refine a_rU ?_ | with_reducible refine a_eqI ?_ | with_reducible refine a_neI ?_ | with_reducible refine a_eqS ?_ | with_reducible refine a_neS ?_ | with_reducible refine a_test ?_ | with_reducible refine a_tB ?_ | with_reducible refine a_bl ?_ | with_reducible refine a_int ?_
  | with_reducible refine a_and ?_ | with_reducible refine a_or ?_ | with_reducible refine a_not ?_ | with_reducible refine a_andV ?_ | with_reducible refine a_orV ?_ | with_reducible refine a_notV ?_ | with_reducible refine a_ifE ?_ | with_reducible refine a_chain ?_ | with_reducible refine a_call ?_ | with_reducible refine a_cb ?_ | with_reducible refine a_star ?_
  | ((with_reducible refine a_nameX ?_); refine ⟨_, (by simp only [L2.wipe, L2.start, List.map_cons, List.map_nil, List.length_cons, List.length_nil, List.replicate_succ, List.replicate_zero, Nat.reduceSub, Nat.reduceAdd, Nat.zero_add, List.cons_append, List.nil_append, List.set_cons_zero, List.set_cons_succ]; exact rfl), ?_⟩) | with_reducible refine a_gcons ?_ | with_reducible refine a_gnil ?_ | with_reducible refine a_gsub ?_ | with_reducible refine a_par ?_ | ((with_reducible refine a_parX rfl ?_); refine ⟨_, (by simp only [L2.wipe, L2.start, List.map_cons, List.map_nil, List.length_cons, List.length_nil, List.replicate_succ, List.replicate_zero, Nat.reduceSub, Nat.reduceAdd, Nat.zero_add, List.cons_append, List.nil_append, List.set_cons_zero, List.set_cons_succ]; exact rfl), ?_⟩) | ((with_reducible refine a_augX ?_); refine ⟨_, rfl, ?_⟩) | with_reducible refine a_ipI ?_ | with_reducible refine a_tup ?_ | with_reducible refine a_lst ?_ | with_reducible refine a_sl ?_ | with_reducible refine a_sslX ?_
  | with_reducible refine a_tsl ?_ | with_reducible refine a_noPart ?_ | with_reducible refine a_part ?_ | with_reducible refine a_i1 ?_ | with_reducible refine a_i1b ?_ | with_reducible refine a_mx ?_ | with_reducible refine a_mn ?_ | with_reducible refine a_ab ?_ | with_reducible refine a_mat ?_ | with_reducible refine a_case ?_
  | ((with_reducible refine a_oneS ?_ ?_); omega) | ((with_reducible refine a_mask 1 ?_ ?_); decide) | ((with_reducible refine a_mask 3 ?_ ?_); decide) | ((with_reducible refine a_mask 6 ?_ ?_); decide) | ((with_reducible refine a_mask 9 ?_ ?_); decide) | ((with_reducible refine a_rI ?_ ?_); first | exact ⟨by decide, by decide⟩ | decide)
  | ((with_reducible refine a_shlK 12 ?_ ?_ ?_); rfl; exact shl_small (by omega) (by omega) (by decide)) | ((with_reducible refine a_shlK 9 ?_ ?_ ?_); rfl; exact shl_small (by omega) (by omega) (by decide)) | ((with_reducible refine a_shlK 6 ?_ ?_ ?_); rfl; exact shl_small (by omega) (by omega) (by decide)) | with_reducible refine a_kdGet ?_
  | with_reducible refine a_bm0 ?_ | with_reducible refine a_bm ?_ | with_reducible refine a_dnewT ?_ | with_reducible refine a_gsl ?_ | with_reducible refine a_mk ?_
  | with_reducible refine a_dget2 ?_ | with_reducible refine a_dnewK ?_ | with_reducible refine a_tli ?_ | with_reducible refine a_pair ?_ | with_reducible refine a_pair0 ?_
  | with_reducible refine a_lc ?_ | with_reducible refine a_itup ?_ | with_reducible refine a_ilst ?_ | with_reducible refine a_yes ?_ | with_reducible refine a_iitems ?_ | with_reducible refine a_dc ?_ | with_reducible refine a_isN0 ?_ | with_reducible refine a_notN0 ?_ | with_reducible refine a_izip ?_ | with_reducible refine a_dget ?_ | with_reducible refine a_propSl ?_ | with_reducible refine a_methSl ?_ | with_reducible refine a_for ?_ | with_reducible refine a_rng1 ?_ | with_reducible refine a_rng2 ?_
  | with_reducible refine iteT ?_ | with_reducible refine iteF ?_)
local macro_rules | `(tactic| walk_at "t") => `(tactic| refine ⟨Nat.le_of_ble_eq_true rfl, a_new ?_⟩)
local macro_rules | `(tactic| walk_at "w") => `(tactic| repeat walk_at "s")
local macro_rules | `(tactic| walk_at "t0") => `(tactic| refine ⟨Nat.le_of_ble_eq_true rfl, ?_⟩)
/-! ## formulas as tuples -/
def opNames : List Str := ["add", "sub", "and", "or", "xor", "less", "left", "right", "times", "part", "rest"]
def nm (j : Nat) : Str := opNames.getD j "add"
/-- v stands for the formula f -/
def IsF (H : Hp) : V → Fm → Prop
  | v, .num n => ∃ a, v = .ref a ∧ H a = some (.tup [.str "number", .int n])
  | v, .cell c => ∃ a, v = .ref a ∧ H a = some (.tup [.str "cell", .int c])
  | v, .two j l r => ∃ a x y, v = .ref a ∧ H a = some (.tup [.str "two", .str (nm j), x, y]) ∧ IsF H x l ∧ IsF H y r
theorem IsF.same {H H' : Hp} (S : Same H H') : ∀ {f : Fm} {v : V}, IsF H v f → IsF H' v f
  | .num n, v, h => by obtain ⟨a, e, q⟩ := h; exact ⟨a, e, S _ _ q⟩
  | .cell c, v, h => by obtain ⟨a, e, q⟩ := h; exact ⟨a, e, S _ _ q⟩
  | .two j l r, v, h => by obtain ⟨a, x, y, e, q, h1, h2⟩ := h; exact ⟨a, x, y, e, S _ _ q, h1.same S, h2.same S⟩
/-- the tag, the items -/
def Fm.tag : Fm → Str
  | .num _ => "number"
  | .cell _ => "cell"
  | .two _ _ _ => "two"
def Fm.isTwo : Fm → Bool
  | .two _ _ _ => true
  | _ => false
theorem IsF.tup {H : Hp} {v : V} {f : Fm} (h : IsF H v f) : ∃ a xs, v = .ref a ∧ H a = some (.tup (.str f.tag :: xs)) := by
  cases f with
  | num n => obtain ⟨a, e, q⟩ := h; exact ⟨a, _, e, q⟩
  | cell n => obtain ⟨a, e, q⟩ := h; exact ⟨a, _, e, q⟩
  | two j l r => obtain ⟨a, x, y, e, q, _⟩ := h; exact ⟨a, _, e, q⟩
theorem tag_two (f : Fm) : f.tag = "two" ↔ f.isTwo = true := by
  cases f with
  | num n => exact ⟨fun h => absurd (show ("number" : Str) = "two" from h) (by decide +kernel), fun h => nomatch h⟩
  | cell n => exact ⟨fun h => absurd (show ("cell" : Str) = "two" from h) (by decide +kernel), fun h => nomatch h⟩
  | two j l r => exact ⟨fun _ => rfl, fun _ => rfl⟩
section
variable {P : Program} {w : World} {K : PySem.W.Frag} {mg : Str → Option Value} {base : Heap}
/-! ### is_leaf -/
theorem sc_is_leaf : FnScope ["formula"] ["formula"] (defScope (top 65)) := ⟨rfl, rfl, rfl, by decide +kernel, rfl, by decide +kernel, by decide +kernel⟩
abbrev sp_is_leaf : Sp := fun vs H Q _ => ∃ (v : V) (f : Fm), vs = [v] ∧ IsF H v f ∧ ∀ H', Same H H' → Q (.bl (!f.isTwo)) H'
theorem ok_is_leaf (T : Txt w K mg base) : C8.Cal P w K mg base 1 "is_leaf" sp_is_leaf [] := by
  refine cal_of T.f_is_leaf T.m_is_leaf sc_is_leaf (fun vs H Q E h => ?_) (fun _ _ _ _ _ _ us hl => match us, hl with | [_], _ => rfl) fun cdv A outer s H vs Q E hr h => ?_
  · obtain ⟨_, _, rfl, _⟩ := h; rfl
  obtain ⟨v, f, rfl, q⟩ := h
  refine ⟨_, pss_one (ps_ret (pe_cmpR op_ne (pe_ix ix_tup (pv 0) (pe_int) (fun _ _ => rfl)) (C8.pe_gc rfl T.c_TWO) (nomark _))), ?_⟩
  obtain ⟨hf, q⟩ := q
  obtain ⟨a, xs, rfl, ha⟩ := hf.tup
  walk_at "w"
  refine a_ixT (SqT.of ha) (at_of (j := 0) rfl rfl) ?_
  walk_at "w"
  have e : (!decide (f.tag = "two")) = !f.isTwo := by
    cases hb : f.isTwo with
    | true => rw [decide_eq_true ((tag_two f).mpr hb)]
    | false => rw [decide_eq_false fun h => by rw [(tag_two f).mp h] at hb; cases hb]
  rw [e]
  exact q _ (Same.refl _)
/-! ### height_in -/
theorem sc_height_in : FnScope ["formula", "one", "other"] ["formula"] (defScope (top 70)) := ⟨rfl, rfl, rfl, by decide +kernel, rfl, by decide +kernel, by decide +kernel⟩
abbrev sp_height_in (N : Nat) : Sp := fun vs H Q _ => ∃ (v : V) (f : Fm), vs = [v] ∧ IsF H v f ∧ f.cnt ≤ N ∧ ∀ H', Same H H' → Q (.int (f.ht : Int)) H'
theorem ok_height_in (T : Txt w K mg base) : ∀ N : Nat, C8.Cal P w K mg base (N + 2) "height_in" (sp_height_in N) []
  | 0 => by
    refine cal_of T.f_height_in T.m_height_in sc_height_in (fun vs H Q E h => ?_) (fun _ _ _ _ _ _ us hl => match us, hl with | [_], _ => rfl) fun cdv A outer s H vs Q E hr h => ?_
    · obtain ⟨_, _, rfl, _⟩ := h; rfl
    obtain ⟨v, f, rfl, hf, hN, q⟩ := h
    have := f.cnt_pos
    exact absurd hN (by omega)
  | N + 1 => by
    have ih := ok_height_in T N
    refine cal_of T.f_height_in T.m_height_in sc_height_in (fun vs H Q E h => ?_) (fun _ _ _ _ _ _ us hl => match us, hl with | [_], _ => rfl) fun cdv A outer s H vs Q E hr h => ?_
    · obtain ⟨_, _, rfl, _⟩ := h; rfl
    obtain ⟨v, f, rfl, hf, hN, q⟩ := h
    refine ⟨_, pss_cons (ps_if (pt_val (C8.pe_c (ok_is_leaf T) hr (by omega) rfl (pa_cons (pv 0) pa_nil)))
    (pss_one (ps_ret (pe_int)))
    (pss_nil))
  (pss_cons (ps_par (i := 1) (j := 2) rfl sc_height_in.nd rfl rfl (by decide) rfl rfl (pa_cons (C8.pe_c (ih) hr (by omega) rfl (pa_cons (pe_ix ix_tup (pv 0) (pe_int) (fun _ _ => rfl)) pa_nil)) (pa_cons (C8.pe_c (ih) hr (by omega) rfl (pa_cons (pe_ix ix_tup (pv 0) (pe_int) (fun _ _ => rfl)) pa_nil)) pa_nil)) rfl)
  (pss_one (ps_ret (pe_ifExp (pt_cmpR op_eq (pv 1) (pv 2) (nomark _)) (pe_op op_add (pv 1) (pe_int)) (pe_callB (call_mx rfl) (by rfl) T.n_max (by decide +kernel) (pa_cons (pv 1) (pa_cons (pv 2) pa_nil))))))), ?_⟩
    walk_at "w"
    refine ⟨v, f, rfl, hf, fun H1 S1 => ?_⟩
    walk_at "w"
    cases f with
    | num n => walk_at "w"; exact q _ S1
    | cell n => walk_at "w"; exact q _ S1
    | two j l r =>
      obtain ⟨a, x, y, rfl, ha, hl, hk⟩ := hf
      have hK := Fm.cnt_two j l r
      have p1 := l.cnt_pos
      have p2 := r.cnt_pos
      rw [Fm.ht_two] at q
      refine iteF ?_
      walk_at "w"
      refine a_ixT (SqT.of (via S1 ha)) (at_of (j := 2) rfl rfl) ?_
      walk_at "w"
      refine ⟨x, l, rfl, hl.same S1, by omega, fun H2 S2 => ?_⟩
      walk_at "w"
      refine a_ixT (SqT.of (via S2 (via S1 ha))) (at_of (j := 3) rfl rfl) ?_
      walk_at "w"
      refine ⟨y, r, rfl, (hk.same S1).same S2, by omega, fun H3 S3 => ?_⟩
      have S13 := (S1.trans S2).trans S3
      walk_at "w"
      refine d_ite (fun e => ?_) fun e => ?_
      · have e' : l.ht = r.ht := Int.ofNat.inj e
        rw [if_pos e'] at q
        walk_at "w"
        exact q _ S13
      · have e' : ¬ l.ht = r.ht := fun z => e (congrArg Int.ofNat z)
        rw [if_neg e'] at q
        walk_at "w"
        rw [show max (l.ht : Int) (r.ht : Int) = ((max l.ht r.ht : Nat) : Int) by omega]
        exact q _ S13
end
end K83
end
section
set_option maxRecDepth 100000
set_option maxHeartbeats 4000000
namespace K83
open PySem PySem.Spec PyProof.Rows L2
local macro_rules | `(tactic| walk_at "s") => `(tactic| first
  | with_reducible refine a_seq ?_ | ((with_reducible refine a_varX ?_); refine ⟨_, rfl, ?_⟩) | with_reducible refine a_c ?_ | with_reducible refine a_op ?_ | with_reducible refine a_rI0 ?_ | with_reducible refine a_cons ?_ | with_reducible refine a_nil ?_
  | with_reducible refine a_next ?_ | with_reducible refine a_ret ?_ | with_reducible refine a_retN ?_ | with_reducible refine a_drop ?_ | with_reducible refine a_if ?_ | with_reducible refine a_asg ?_ | with_reducible refine a_un ?_
  | with_reducible refine a_rU ?_ | with_reducible refine a_eqI ?_ | with_reducible refine a_neI ?_ | with_reducible refine a_eqS ?_ | with_reducible refine a_neS ?_ | with_reducible refine a_test ?_ | with_reducible refine a_tB ?_ | with_reducible refine a_bl ?_ | with_reducible refine a_int ?_
  | with_reducible refine a_and ?_ | with_reducible refine a_or ?_ | with_reducible refine a_not ?_ | with_reducible refine a_andV ?_ | with_reducible refine a_orV ?_ | with_reducible refine a_notV ?_ | with_reducible refine a_ifE ?_ | with_reducible refine a_chain ?_ | with_reducible refine a_call ?_ | with_reducible refine a_cb ?_ | with_reducible refine a_star ?_
  | ((with_reducible refine a_nameX ?_); refine ⟨_, (by simp only [L2.wipe, L2.start, List.map_cons, List.map_nil, List.length_cons, List.length_nil, List.replicate_succ, List.replicate_zero, Nat.reduceSub, Nat.reduceAdd, Nat.zero_add, List.cons_append, List.nil_append, List.set_cons_zero, List.set_cons_succ]; exact rfl), ?_⟩) | with_reducible refine a_gcons ?_ | with_reducible refine a_gnil ?_ | with_reducible refine a_gsub ?_ | with_reducible refine a_par ?_ | ((with_reducible refine a_parX rfl ?_); refine ⟨_, (by simp only [L2.wipe, L2.start, List.map_cons, List.map_nil, List.length_cons, List.length_nil, List.replicate_succ, List.replicate_zero, Nat.reduceSub, Nat.reduceAdd, Nat.zero_add, List.cons_append, List.nil_append, List.set_cons_zero, List.set_cons_succ]; exact rfl), ?_⟩) | ((with_reducible refine a_augX ?_); refine ⟨_, rfl, ?_⟩) | with_reducible refine a_ipI ?_ | with_reducible refine a_tup ?_ | with_reducible refine a_lst ?_ | with_reducible refine a_sl ?_ | with_reducible refine a_sslX ?_
  | with_reducible refine a_tsl ?_ | with_reducible refine a_noPart ?_ | with_reducible refine a_part ?_ | with_reducible refine a_i1 ?_ | with_reducible refine a_i1b ?_ | with_reducible refine a_mx ?_ | with_reducible refine a_mn ?_ | with_reducible refine a_ab ?_ | with_reducible refine a_mat ?_ | with_reducible refine a_case ?_
  | ((with_reducible refine a_oneS ?_ ?_); omega) | ((with_reducible refine a_mask 1 ?_ ?_); decide) | ((with_reducible refine a_mask 3 ?_ ?_); decide) | ((with_reducible refine a_mask 6 ?_ ?_); decide) | ((with_reducible refine a_mask 9 ?_ ?_); decide) | ((with_reducible refine a_rI ?_ ?_); first | exact ⟨by decide, by decide⟩ | decide)
  | ((with_reducible refine a_shlK 12 ?_ ?_ ?_); rfl; exact shl_small (by omega) (by omega) (by decide)) | ((with_reducible refine a_shlK 9 ?_ ?_ ?_); rfl; exact shl_small (by omega) (by omega) (by decide)) | ((with_reducible refine a_shlK 6 ?_ ?_ ?_); rfl; exact shl_small (by omega) (by omega) (by decide)) | with_reducible refine a_kdGet ?_
  | with_reducible refine a_bm0 ?_ | with_reducible refine a_bm ?_ | with_reducible refine a_dnewT ?_ | with_reducible refine a_gsl ?_ | with_reducible refine a_mk ?_
  | with_reducible refine a_dget2 ?_ | with_reducible refine a_dnewK ?_ | with_reducible refine a_tli ?_ | with_reducible refine a_pair ?_ | with_reducible refine a_pair0 ?_
  | with_reducible refine a_lc ?_ | with_reducible refine a_itup ?_ | with_reducible refine a_ilst ?_ | with_reducible refine a_yes ?_ | with_reducible refine a_iitems ?_ | with_reducible refine a_dc ?_ | with_reducible refine a_isN0 ?_ | with_reducible refine a_notN0 ?_ | with_reducible refine a_izip ?_ | with_reducible refine a_dget ?_ | with_reducible refine a_propSl ?_ | with_reducible refine a_methSl ?_ | with_reducible refine a_for ?_ | with_reducible refine a_rng1 ?_ | with_reducible refine a_rng2 ?_
  | with_reducible refine iteT ?_ | with_reducible refine iteF ?_)
local macro_rules | `(tactic| walk_at "t") => `(tactic| refine ⟨Nat.le_of_ble_eq_true rfl, a_new ?_⟩)
local macro_rules | `(tactic| walk_at "w") => `(tactic| repeat walk_at "s")
local macro_rules | `(tactic| walk_at "t0") => `(tactic| refine ⟨Nat.le_of_ble_eq_true rfl, ?_⟩)
theorem a_while {c : TT} {tb : TS} {n : L2.St → Hp → Prop} {r : VK} {bk ct : L2.St → Hp → Prop} {σ : L2.St} {H : Hp} (W : Nat → L2.St → Hp → Prop) (h0 : ∃ m, W m σ H)
    (hs : ∀ m σ H, W m σ H → c σ H fun b H1 => if b = true then ∃ N : L2.St → Hp → Prop, (∀ σ' H', N σ' H' → ∃ m', m' < m ∧ W m' σ' H') ∧ tb ⟨N, r, n, N⟩ σ H1 else n σ H1) : tWhile c tb ⟨n, r, bk, ct⟩ σ H := ⟨W, h0, hs⟩
theorem w_in {m : Nat} {W : Nat → L2.St → Hp → Prop} {R : (L2.St → Hp → Prop) → Prop} (h : R fun σ' H' => ∃ m', m' < m ∧ W m' σ' H') : ∃ N : L2.St → Hp → Prop, (∀ σ' H', N σ' H' → ∃ m', m' < m ∧ W m' σ' H') ∧ R N := ⟨_, fun _ _ h => h, h⟩
/-! ## formulas as data -/
def Fm.dat : Fm → PyData
  | .num n => .tuple [.str "number", .int n]
  | .cell c => .tuple [.str "cell", .int c]
  | .two j l r => .tuple [.str "two", .str (nm j), l.dat, r.dat]
theorem IsF.dp {K : PySem.W.Frag} {H : Hp} : ∀ {f : Fm} {v : V}, IsF H v f → Dp K H v f.dat
  | .num n, v, h => by obtain ⟨a, rfl, q⟩ := h; exact .tup (SqT.of q) (.cons (.str _) (.cons (.int _) .nil))
  | .cell c, v, h => by obtain ⟨a, rfl, q⟩ := h; exact .tup (SqT.of q) (.cons (.str _) (.cons (.int _) .nil))
  | .two j l r, v, h => by obtain ⟨a, x, y, rfl, q, h1, h2⟩ := h; exact .tup (SqT.of q) (.cons (.str _) (.cons (.str _) (.cons h1.dp (.cons h2.dp .nil))))
theorem nm_ok (j : Nat) : PyData.strOk (nm j) = true := by
  by_cases h : j < 11
  · exact (by decide +kernel : ∀ j, j < 11 → PyData.strOk (nm j) = true) j h
  · have e : nm j = "add" := by
      show opNames.getD j "add" = "add"
      rw [List.getD_eq_getElem?_getD, List.getElem?_eq_none (by show 11 ≤ j; omega)]; rfl
    rw [e]; decide +kernel
theorem Fm.lay : ∀ f : Fm, f.dat.canLay0 = true ∧ f.dat.depth ≤ f.cnt
  | .num n => ⟨show PyData.canLay0 (.tuple [.str "number", .int n]) = true by simp only [PyData.canLay0, PyData.canLayAll0, Bool.and_true]; decide +kernel, Nat.le_refl _⟩
  | .cell n => ⟨show PyData.canLay0 (.tuple [.str "cell", .int n]) = true by simp only [PyData.canLay0, PyData.canLayAll0, Bool.and_true]; decide +kernel, Nat.le_refl _⟩
  | .two j l r => by
    obtain ⟨h1, d1⟩ := Fm.lay l
    obtain ⟨h2, d2⟩ := Fm.lay r
    constructor
    · show PyData.canLay0 (.tuple [.str "two", .str (nm j), l.dat, r.dat]) = true
      simp only [PyData.canLay0, PyData.canLayAll0, h1, h2, nm_ok j, Bool.and_true]
      decide +kernel
    · show PyData.depth (.tuple [.str "two", .str (nm j), l.dat, r.dat]) ≤ l.cnt + r.cnt + 1
      simp only [PyData.depth, PyData.depthAll]
      omega
/-- a stack of formulas -/
def sumC : List Fm → Nat
  | [] => 0
  | f :: fs => f.cnt + sumC fs
theorem sumC_app : ∀ (a b : List Fm), sumC (a ++ b) = sumC a + sumC b
  | [], b => by simp [sumC]
  | f :: a, b => by show f.cnt + sumC (a ++ b) = f.cnt + sumC a + sumC b; rw [sumC_app a b]; omega
inductive AreF (H : Hp) : List V → List Fm → Prop
  | nil : AreF H [] []
  | cons {v : V} {f : Fm} {vs : List V} {fs : List Fm} : IsF H v f → AreF H vs fs → AreF H (v :: vs) (f :: fs)
theorem AreF.same {H H' : Hp} (S : Same H H') {vs : List V} {fs : List Fm} (h : AreF H vs fs) : AreF H' vs fs := by
  induction h with
  | nil => exact .nil
  | cons a _ ih => exact .cons (a.same S) ih
theorem AreF.app {H : Hp} {vs ws : List V} {fs gs : List Fm} (h : AreF H vs fs) (k : AreF H ws gs) : AreF H (vs ++ ws) (fs ++ gs) := by
  induction h with
  | nil => exact k
  | cons a _ ih => exact .cons a ih
theorem AreF.len {H : Hp} {vs : List V} {fs : List Fm} (h : AreF H vs fs) : vs.length = fs.length := by
  induction h with
  | nil => rfl
  | cons a _ ih => exact congrArg Nat.succ ih
theorem AreF.dp {K : PySem.W.Frag} {H : Hp} {vs : List V} {fs : List Fm} (h : AreF H vs fs) : DpAll K H vs (fs.map Fm.dat) := by
  induction h with
  | nil => exact .nil
  | cons a _ ih => exact .cons a.dp ih
/-- the last one -/
theorem AreF.last {H : Hp} {vs : List V} {fs : List Fm} (h : AreF H vs fs) (hn : fs ≠ []) : ∃ v f ws gs, vs = ws ++ [v] ∧ fs = gs ++ [f] ∧ IsF H v f ∧ AreF H ws gs := by
  induction h with
  | nil => exact absurd rfl hn
  | cons a t ih =>
    rename_i v f vs fs
    cases fs with
    | nil => cases t; exact ⟨v, f, [], [], rfl, rfl, a, .nil⟩
    | cons g gs =>
      obtain ⟨v', f', ws, gs', e1, e2, h1, h2⟩ := ih (List.cons_ne_nil _ _)
      exact ⟨v', f', v :: ws, f :: gs', by rw [e1]; rfl, by rw [e2]; rfl, h1, .cons a h2⟩
theorem len_sum : ∀ fs : List Fm, fs.length ≤ sumC fs
  | [] => Nat.le_refl _
  | f :: fs => by
    have := f.cnt_pos
    have := len_sum fs
    show fs.length + 1 ≤ f.cnt + sumC fs
    omega
theorem lay_all : ∀ fs : List Fm, PyData.canLayAll0 (fs.map Fm.dat) = true ∧ PyData.depthAll (fs.map Fm.dat) ≤ sumC fs
  | [] => ⟨rfl, Nat.le_refl _⟩
  | f :: fs => by
    obtain ⟨h1, d1⟩ := f.lay
    obtain ⟨h2, d2⟩ := lay_all fs
    constructor
    · show PyData.canLayAll0 (f.dat :: fs.map Fm.dat) = true
      simp only [PyData.canLayAll0, h1, h2, Bool.and_true]
    · show PyData.depthAll (f.dat :: fs.map Fm.dat) ≤ f.cnt + sumC fs
      simp only [PyData.depthAll]; omega
theorem shaped_list {fs : List Fm} (h : sumC fs ≤ 63) : SeqAt.shaped (.list (fs.map Fm.dat)) = true := by
  obtain ⟨h1, h2⟩ := lay_all fs
  unfold SeqAt.shaped
  simp only [PyData.canLay0, PyData.depth, h1, Bool.true_and]
  exact decide_eq_true (by omega)
theorem shaped_one {f : Fm} (h : f.cnt ≤ 63) : SeqAt.shaped f.dat = true := by
  obtain ⟨h1, h2⟩ := f.lay
  unfold SeqAt.shaped
  rw [h1, Bool.true_and]
  exact decide_eq_true (by omega)
theorem inPlain : ∀ j, j < 11 → inV (.str (nm j)) [.str "add", .str "sub", .str "and", .str "or", .str "xor", .str "less", .str "left", .str "right"] = decide (j < 8) := by decide +kernel
section
variable {P : Program} {w : World} {K : PySem.W.Frag} {mg : Str → Option Value} {base : Heap}
theorem lk_at (T : Txt w K mg base) : ∀ j, 8 ≤ j → j < 11 → ∃ u, PySem.W.nsIn K (He.ga K "LONG_KINDS") (nm j) = some (some u) ∧ RelV (.int ((j : Int) - 4)) u := by
  intro j h1 h2
  have : j = 8 ∨ j = 9 ∨ j = 10 := by omega
  rcases this with rfl | rfl | rfl
  · exact T.lk (q := ("times", .int 4)) (by simp)
  · exact T.lk (q := ("part", .int 5)) (by simp)
  · exact T.lk (q := ("rest", .int 6)) (by simp)
theorem lk_no (T : Txt w K mg base) : ∀ j, j < 8 → PySem.W.nsIn K (He.ga K "LONG_KINDS") (nm j) = some none := by
  intro j h
  exact T.lkn ((by decide +kernel : ∀ j, j < 8 → nm j ∈ (["add", "sub", "and", "or", "xor", "less", "left", "right"] : List PySem.Str)) j h)
/-! ### are_sides -/
theorem sc_are_sides : FnScope ["value"] ["value"] (defScope (top 66)) := ⟨rfl, rfl, rfl, by decide +kernel, rfl, by decide +kernel, by decide +kernel⟩
abbrev sp_are_sides : Sp := fun vs H Q _ => ∃ (a : Addr) (j : Nat) (x y : V), vs = [.ref a] ∧ H a = some (.tup [.str "two", .str (nm j), x, y]) ∧ j < 11 ∧ ∀ H', Same H H' → Q (.bl true) H'
theorem ok_are_sides (T : Txt w K mg base) : C8.Cal P w K mg base 1 "are_sides" sp_are_sides [] := by
  refine cal_of T.f_are_sides T.m_are_sides sc_are_sides (fun vs H Q E h => ?_) (fun _ _ _ _ _ _ us hl => match us, hl with | [_], _ => rfl) fun cdv A outer s H vs Q E hr h => ?_
  · obtain ⟨_, _, _, _, rfl, _⟩ := h; rfl
  obtain ⟨a, j, x, y, rfl, ha, hj, q⟩ := h
  obtain ⟨es, n, D⟩ := T.lkt
  refine ⟨_, pss_cons (ps_if (PW.pt (pw_or (pt_cmpR op_ne (pe_callB call_lenS (by rfl) T.n_len (by decide +kernel) (pa_cons (pv 0) pa_nil)) (C8.pe_gc rfl T.c_TWO_SIZE) (nomark _)) (pw_or1 (pt_not (pt_val (pe_callB call_isi (by rfl) T.n_isinstance (by decide +kernel) (pa_cons (pe_ix ix_tup (pv 0) (pe_int) (fun _ _ => rfl)) (pa_cons (pe_bltn (v := .ty "str") (by rfl) T.n_str (by decide +kernel) rfl) pa_nil))))))))
    (pss_one (ps_ret (pe_bl)))
    (pss_nil))
  (pss_one (ps_ret (pe_or (pe_cmpR op_in_seq (pe_ix ix_tup (pv 0) (pe_int) (fun _ _ => rfl)) (C8.pe_gc rfl T.c_PLAIN_OPS) rfl) (pe_one (pe_cmpR (op_inKd D) (pe_ix ix_tup (pv 0) (pe_int) (fun _ _ => rfl)) (C8.pe_gc rfl T.c_LONG_KINDS) rfl))))), ?_⟩
  walk_at "w"
  refine a_lenT (SqT.of ha) ?_
  walk_at "w"
  refine d_nf rfl ?_
  walk_at "w"
  refine a_ixT (SqT.of ha) (at_of (j := 1) rfl rfl) ?_
  walk_at "w"
  refine a_isi (.ty _) (.base (.str _)) (kit_ty (r := true) (by decide +kernel)) ?_
  walk_at "w"
  refine iteF ?_
  walk_at "w"
  refine a_ixT (SqT.of ha) (at_of (j := 1) rfl rfl) ?_
  walk_at "w"
  refine a_inT (T.t_PLAIN_OPS H) rfl rfl ?_
  walk_at "w"
  refine ite2 (fun _ => q _ (Same.refl _)) fun h => ?_
  walk_at "w"
  refine a_ixT (SqT.of ha) (at_of (j := 1) rfl rfl) ?_
  walk_at "w"
  have h8 : 8 ≤ j := by
    rw [if_neg Bool.false_ne_true, inPlain j hj] at h
    have := of_decide_eq_false (Bool.eq_false_iff.mpr h)
    omega
  obtain ⟨u, e, _⟩ := lk_at T j h8 hj
  refine a_inKd e ?_
  exact q _ (Same.refl _)
/-! ### is_leaf_any -/
theorem sc_is_leaf_any : FnScope ["value"] ["value"] (defScope (top 67)) := ⟨rfl, rfl, rfl, by decide +kernel, rfl, by decide +kernel, by decide +kernel⟩
abbrev sp_is_leaf_any : Sp := fun vs H Q _ => ∃ (v : V) (f : Fm), vs = [v] ∧ IsF H v f ∧ f.isTwo = false ∧ f.ok ∧ ∀ H', Same H H' → Q (.bl true) H'
theorem ok_is_leaf_any (T : Txt w K mg base) : C8.Cal P w K mg base 3 "is_leaf_any" sp_is_leaf_any [] := by
  refine cal_of T.f_is_leaf_any T.m_is_leaf_any sc_is_leaf_any (fun vs H Q E h => ?_) (fun _ _ _ _ _ _ us hl => match us, hl with | [_], _ => rfl) fun cdv A outer s H vs Q E hr h => ?_
  · obtain ⟨_, _, rfl, _⟩ := h; rfl
  obtain ⟨v, f, rfl, hf, ht, ho, q⟩ := h
  refine ⟨_, pss_cons (ps_if (pt_cmpR op_ne (pe_callB call_lenS (by rfl) T.n_len (by decide +kernel) (pa_cons (pv 0) pa_nil)) (C8.pe_gc rfl T.c_LEAF_SIZE) (nomark _))
    (pss_one (ps_ret (pe_bl)))
    (pss_nil))
  (pss_cons (ps_if (pt_cmpR op_eq (pe_ix ix_tup (pv 0) (pe_int) (fun _ _ => rfl)) (C8.pe_gc rfl T.c_NUMBER) (nomark _))
    (pss_one (ps_ret (C8.pe_c (ok_is_within T) hr (by omega) rfl (pa_cons (pe_ix ix_tup (pv 0) (pe_int) (fun _ _ => rfl)) (pa_cons (C8.pe_gc rfl T.c_TOLD_LEAST) (pa_cons (C8.pe_gc rfl T.c_TOLD_MOST) pa_nil))))))
    (pss_nil))
  (pss_one (ps_ret (pe_and (pe_cmpR op_eq (pe_ix ix_tup (pv 0) (pe_int) (fun _ _ => rfl)) (C8.pe_gc rfl T.c_CELL) (nomark _)) (pe_one (C8.pe_c (ok_is_within T) hr (by omega) rfl (pa_cons (pe_ix ix_tup (pv 0) (pe_int) (fun _ _ => rfl)) (pa_cons (pe_int) (pa_cons (C8.pe_gc rfl T.c_MOST_CELL) pa_nil))))))))), ?_⟩
  cases f with
  | num n =>
    obtain ⟨a, rfl, ha⟩ := hf
    walk_at "w"
    refine a_lenT (SqT.of ha) ?_
    walk_at "w"
    refine d_nf rfl ?_
    walk_at "w"
    refine a_ixT (SqT.of ha) (at_of (j := 0) rfl rfl) ?_
    walk_at "w"
    refine d_t rfl ?_
    walk_at "w"
    refine a_ixT (SqT.of ha) (at_of (j := 1) rfl rfl) ?_
    walk_at "w"
    refine ⟨n, -256, 255, rfl, fun H1 S1 => ?_⟩
    rw [show decide (-256 ≤ n ∧ n ≤ 255) = true from decide_eq_true ho]
    exact q _ S1
  | cell n =>
    obtain ⟨a, rfl, ha⟩ := hf
    walk_at "w"
    refine a_lenT (SqT.of ha) ?_
    walk_at "w"
    refine d_nf rfl ?_
    walk_at "w"
    refine a_ixT (SqT.of ha) (at_of (j := 0) rfl rfl) ?_
    walk_at "w"
    refine d_f (by decide +kernel) ?_
    walk_at "w"
    refine a_ixT (SqT.of ha) (at_of (j := 0) rfl rfl) ?_
    walk_at "w"
    refine d_t rfl ?_
    walk_at "w"
    refine a_ixT (SqT.of ha) (at_of (j := 1) rfl rfl) ?_
    walk_at "w"
    refine ⟨n, 0, 31, rfl, fun H1 S1 => ?_⟩
    rw [show decide (0 ≤ n ∧ n ≤ 31) = true from decide_eq_true ho]
    exact q _ S1
  | two j l r => cases ht
/-! ### is_formula -/
theorem sc_is_formula : FnScope ["value", "waiting", "met", "here"] ["value"] (defScope (top 68)) := ⟨rfl, rfl, rfl, by decide +kernel, rfl, by decide +kernel, by decide +kernel⟩
abbrev sp_is_formula : Sp := fun vs H Q _ => ∃ (v : V) (f : Fm), vs = [v] ∧ IsF H v f ∧ f.ok ∧ f.cnt ≤ 60 ∧ ∀ H', Same H H' → Q (.bl true) H'
/-- what the stack of is_formula holds -/
def StF (H0 : Hp) (v : V) (L : Addr) (T m : Nat) (σ : L2.St) (H : Hp) : Prop :=
  ∃ (vs : List V) (fs : List Fm) (met : Nat) (o : Option V), σ = [some v, some (.ref L), some (.int (met : Int)), o] ∧ H L = some (.lst vs) ∧ AreF H vs fs ∧ (∀ f ∈ fs, f.ok) ∧ met + sumC fs = T ∧ m = sumC fs ∧ Same H0 H
theorem fms_upd {H : Hp} {L : Addr} {o u : HO} {vs : List V} {fs : List Fm} (hL : H L = some o) (hn : ∀ xs, o ≠ .tup xs) (h : AreF H vs fs) : AreF (upd H L u) vs fs := by
  have one : ∀ {f : Fm} {v : V}, IsF H v f → IsF (upd H L u) v f := by
    intro f
    have k : ∀ {a : Addr} {xs : List V}, H a = some (.tup xs) → upd H L u a = some (.tup xs) := fun {a xs} e => by
      rw [upd_ne fun z => hn xs (by rw [z, hL] at e; exact Option.some.inj e)]; exact e
    induction f with
    | num n => intro v h; obtain ⟨a, e, q⟩ := h; exact ⟨a, e, k q⟩
    | cell n => intro v h; obtain ⟨a, e, q⟩ := h; exact ⟨a, e, k q⟩
    | two j l r i1 i2 => intro v h; obtain ⟨a, x, y, e, q, h1, h2⟩ := h; exact ⟨a, x, y, e, k q, i1 h1, i2 h2⟩
  induction h with
  | nil => exact .nil
  | cons a _ ih => exact .cons (one a) ih
theorem ok_is_formula (T : Txt w K mg base) : C8.Cal P w K mg base 4 "is_formula" sp_is_formula [] := by
  refine cal_of T.f_is_formula T.m_is_formula sc_is_formula (fun vs H Q E h => ?_) (fun _ _ _ _ _ _ us hl => match us, hl with | [_], _ => rfl) fun cdv A outer s H vs Q E hr h => ?_
  · obtain ⟨_, _, rfl, _⟩ := h; rfl
  obtain ⟨v, f, rfl, hf, ho, hc, q⟩ := h
  refine ⟨_, pss_cons (ps_par (i := 1) (j := 2) rfl sc_is_formula.nd rfl rfl (by decide) rfl rfl (pa_cons (pe_lst (pa_cons (pv 0) pa_nil)) (pa_cons (pe_int) pa_nil)) rfl)
  (pss_cons (ps_while PassesOwn.never (pt_cmpR (op_neD hr.units) (pv 1) (pe_lst (pa_nil)) (nomark _))
    (pss_cons (ps_set (i := 3) sc_is_formula.nd rfl (Or.inl rfl) (pe_bm0 PySem.F.plainAttrs_list PySem.F.slot_list_pop PySem.F.type_list_pop mt_pop (pv 1)))
      (pss_cons (ps_aug (i := 2) sc_is_formula.nd rfl (Or.inl rfl) (pe_int) ip_add)
      (pss_cons (ps_if (PW.pt (pw_or (pt_cmpR op_gt (pv 2) (C8.pe_gc rfl T.c_MOST_NODES) (nomark _)) (pw_or (pt_not (pt_val (pe_callB call_isi (by rfl) T.n_isinstance (by decide +kernel) (pa_cons (pv 3) (pa_cons (pe_bltn (v := .ty "tuple") (by rfl) T.n_tuple (by decide +kernel) rfl) pa_nil))))) (pw_or (pt_cmpR (op_eqD hr.units) (pv 3) (pe_tup (pa_nil)) (nomark _)) (pw_or1 (pt_not (pt_val (pe_callB call_isi (by rfl) T.n_isinstance (by decide +kernel) (pa_cons (pe_ix ix_tup (pv 3) (pe_int) (fun _ _ => rfl)) (pa_cons (pe_bltn (v := .ty "str") (by rfl) T.n_str (by decide +kernel) rfl) pa_nil))))))))))
        (pss_one (ps_ret (pe_bl)))
        (pss_nil))
      (pss_one (ps_if (PW.pt (pw_and (pt_cmpR op_eq (pe_ix ix_tup (pv 3) (pe_int) (fun _ _ => rfl)) (C8.pe_gc rfl T.c_TWO) (nomark _)) (pw_and1 (pt_val (C8.pe_c (ok_are_sides T) hr (by omega) rfl (pa_cons (pv 3) pa_nil))))))
        (pss_one (ps_expr (pe_bm PySem.F.plainAttrs_list PySem.F.slot_list_extend PySem.F.type_list_extend mt_extT (pv 1) (pa_cons (pe_slice sl_tupA (pv 3) (po_some (pe_int)) po_none) pa_nil))))
        (pss_one (ps_if (pt_not (pt_val (C8.pe_c (ok_is_leaf_any T) hr (by omega) rfl (pa_cons (pv 3) pa_nil))))
            (pss_one (ps_ret (pe_bl)))
            (pss_nil)))))))))
  (pss_one (ps_ret (pe_bl)))), ?_⟩
  walk_at "w"

  walk_at "t"
  intro L H1 n1 S1 e1
  walk_at "w"
  refine a_while (StF H v L f.cnt) ⟨_, [v], [f], 0, none, rfl, e1, .cons (hf.same S1) .nil, fun g hg => by rw [List.mem_singleton.mp hg]; exact ho, by simp [sumC], rfl, S1⟩ fun m σ H2 hW => ?_
  obtain ⟨vs, fs, met, o, rfl, hL, hA, hok, hm, rfl, S2⟩ := hW
  walk_at "w"
  walk_at "t"
  intro p H3 n3 S3 e3
  refine ⟨_, _, .lst (SqL.of (via S3 hL)) (hA.same S3).dp, .lst (SqL.of e3) .nil, shaped_list (by omega), by decide, ?_⟩
  walk_at "w"
  have hL3 := via S3 hL
  have hA3 := hA.same S3
  have S03 := S2.trans S3
  by_cases hn : fs = []
  · subst hn
    cases hA
    refine d_bf rfl ?_
    walk_at "w"
    exact q _ S03
  obtain ⟨x, g, ws, gs, rfl, rfl, hx, hws⟩ := hA3.last hn
  have hok' := hok g (by simp)
  have hsum := sumC_app gs [g]
  rw [show sumC [g] = g.cnt from rfl] at hsum
  have hpos := g.cnt_pos
  refine d_bt (by cases gs <;> rfl) (w_in ?_)
  walk_at "w"
  walk_at "w"
  refine ⟨ty_list (SqL.of hL3), a_pop hL3 (y := x) (by simp) ?_⟩
  rw [List.dropLast_concat]
  have nL : H L = none := n1
  have S4 : Same H (upd H3 L (.lst ws)) := same_upd S03 nL
  have hx4 : AreF (upd H3 L (.lst ws)) [x] [g] := fms_upd hL3 (fun _ z => nomatch z) (.cons hx .nil)
  have hws4 : AreF (upd H3 L (.lst ws)) ws gs := fms_upd hL3 (fun _ z => nomatch z) hws
  have hx5 : IsF (upd H3 L (.lst ws)) x g := by cases hx4 with | cons a _ => exact a
  have hL4 : upd H3 L (.lst ws) L = some (.lst ws) := upd_same
  generalize upd H3 L (.lst ws) = H4 at *
  obtain ⟨a, xs, rfl, ha⟩ := hx5.tup
  walk_at "w"
  refine d_f (by omega) ?_
  walk_at "w"
  refine a_isi (.ty _) (.base (.tup ha)) (kit_ty (r := true) (by decide +kernel)) ?_
  walk_at "w"
  refine iteF ?_
  walk_at "w"
  refine ⟨Nat.zero_le _, a_new fun p5 H5 n5 S5 e5 => ?_⟩
  refine ⟨_, _, (hx5.same S5).dp, .tup (SqT.of e5) .nil, shaped_one (by omega), by decide, ?_⟩
  walk_at "w"
  refine d_bf (by cases g <;> rfl) ?_
  walk_at "w"
  refine a_ixT (SqT.of (via S5 ha)) (at_of (j := 0) rfl rfl) ?_
  walk_at "w"
  refine a_isi (.ty _) (.base (.str _)) (kit_ty (r := true) (by decide +kernel)) ?_
  walk_at "w"
  refine iteF ?_
  walk_at "w"
  have hx6 := hx5.same S5
  have hws6 := hws4.same S5
  have hL6 := via S5 hL4
  have S6 := S4.trans S5
  refine a_ixT (SqT.of (via S5 ha)) (at_of (j := 0) rfl rfl) ?_
  walk_at "w"
  cases g with
  | num n =>
    have hc1 : (Fm.num n).cnt = 1 := rfl
    refine d_f (fun h => absurd (show ("number" : Str) = "two" from h) (by decide +kernel)) ?_
    walk_at "w"
    refine ⟨.ref a, .num n, rfl, hx6, rfl, hok', fun H7 S7 => ?_⟩
    walk_at "w"
    refine iteF ?_
    walk_at "w"
    exact ⟨_, by omega, ws, gs, met + 1, some (.ref a), rfl, via S7 hL6, hws6.same S7, fun k hk => hok k (List.mem_append_left _ hk), by omega, rfl, S6.trans S7⟩
  | cell n =>
    have hc1 : (Fm.cell n).cnt = 1 := rfl
    refine d_f (fun h => absurd (show ("cell" : Str) = "two" from h) (by decide +kernel)) ?_
    walk_at "w"
    refine ⟨.ref a, .cell n, rfl, hx6, rfl, hok', fun H7 S7 => ?_⟩
    walk_at "w"
    refine iteF ?_
    walk_at "w"
    exact ⟨_, by omega, ws, gs, met + 1, some (.ref a), rfl, via S7 hL6, hws6.same S7, fun k hk => hok k (List.mem_append_left _ hk), by omega, rfl, S6.trans S7⟩
  | two j l r =>
    obtain ⟨a', y, z, e, ha', hl, hk⟩ := hx6
    cases e
    refine d_t rfl ?_
    walk_at "w"
    refine ⟨a, j, y, z, rfl, ha', hok'.1, fun H7 S7 => ?_⟩
    walk_at "w"
    walk_at "w"
    have hL7 := via S7 hL6
    refine ⟨ty_list (SqL.of hL7), ?_⟩
    walk_at "w"
    refine a_slP (SqT.of (via S7 ha')) (fun h => absurd h.1 (show ¬ (HT.sIx 4 0 (some 2) = 0) by decide)) (a_new fun p8 H8 n8 S8 e8 => ?_)
    walk_at "w"
    have hc2 := Fm.cnt_two j l r
    have hln : ws.length ≤ sumC gs := by rw [hws.len]; exact len_sum gs
    refine a_extT (via S8 hL7) (SqT.of e8) ?_ ?_
    · rw [show (cutV [V.str "two", V.str (nm j), y, z] (some 2) none).length = 2 from rfl]
      exact Nat.le_trans (by omega : ws.length + 2 ≤ 62) (by decide)
    walk_at "w"
    have hA8 := ((hws6.same S7).same S8).app (.cons ((hl.same S7).same S8) (.cons ((hk.same S7).same S8) .nil))
    refine ⟨_, by rw [sumC_app, hsum, hc2]; show sumC gs + (l.cnt + (r.cnt + 0)) < _; omega, _, gs ++ [l, r], met + 1, some (.ref a), rfl, upd_same, fms_upd (via S8 hL7) (fun _ z => nomatch z) hA8, fun k hk => ?_, by rw [sumC_app]; show met + 1 + (sumC gs + (l.cnt + (r.cnt + 0))) = f.cnt; omega, rfl, same_upd ((S6.trans S7).trans S8) nL⟩
    rcases List.mem_append.mp hk with hk | hk
    · exact hok k (List.mem_append_left _ hk)
    · simp only [List.mem_cons, List.not_mem_nil, or_false] at hk
      rcases hk with rfl | rfl
      · exact hok'.2.1
      · exact hok'.2.2
/-! ### require_formula, formula_height -/
theorem sc_require_formula : FnScope ["formula"] ["formula"] (defScope (top 69)) := ⟨rfl, rfl, rfl, by decide +kernel, rfl, by decide +kernel, by decide +kernel⟩
abbrev sp_require_formula : Sp := fun vs H Q _ => ∃ (v : V) (f : Fm), vs = [v] ∧ IsF H v f ∧ f.ok ∧ f.cnt ≤ 60 ∧ ∀ H', Same H H' → Q .non H'
theorem ok_require_formula (T : Txt w K mg base) : C8.Cal P w K mg base 5 "require_formula" sp_require_formula [] := by
  refine cal_of T.f_require_formula T.m_require_formula sc_require_formula (fun vs H Q E h => ?_) (fun _ _ _ _ _ _ us hl => match us, hl with | [_], _ => rfl) fun cdv A outer s H vs Q E hr h => ?_
  · obtain ⟨_, _, rfl, _⟩ := h; rfl
  obtain ⟨v, f, rfl, q⟩ := h
  refine ⟨_, pss_one (ps_if (pt_not (pt_val (C8.pe_c (ok_is_formula T) hr (by omega) rfl (pa_cons (pv 0) pa_nil))))
    (pss_one (ps_never))
    (pss_nil)), ?_⟩
  obtain ⟨hf, ho, hc, q⟩ := q
  walk_at "w"
  refine ⟨v, f, rfl, hf, ho, hc, fun H1 S1 => ?_⟩
  walk_at "w"
  refine iteF ?_
  walk_at "w"
  exact q _ S1
theorem sc_formula_height : FnScope ["formula"] ["formula"] (defScope (top 73)) := ⟨rfl, rfl, rfl, by decide +kernel, rfl, by decide +kernel, by decide +kernel⟩
abbrev sp_formula_height : Sp := fun vs H Q _ => ∃ (v : V) (f : Fm), vs = [v] ∧ IsF H v f ∧ f.ok ∧ f.cnt ≤ 60 ∧ ∀ H', Same H H' → Q (.int (f.ht : Int)) H'
theorem ok_formula_height (T : Txt w K mg base) : C8.Cal P w K mg base 63 "formula_height" sp_formula_height [] := by
  refine cal_of T.f_formula_height T.m_formula_height sc_formula_height (fun vs H Q E h => ?_) (fun _ _ _ _ _ _ us hl => match us, hl with | [_], _ => rfl) fun cdv A outer s H vs Q E hr h => ?_
  · obtain ⟨_, _, rfl, _⟩ := h; rfl
  obtain ⟨v, f, rfl, q⟩ := h
  refine ⟨_, pss_cons (ps_expr (C8.pe_c (ok_require_formula T) hr (by omega) rfl (pa_cons (pv 0) pa_nil)))
  (pss_one (ps_ret (C8.pe_c (ok_height_in T 60) hr (by omega) rfl (pa_cons (pv 0) pa_nil)))), ?_⟩
  obtain ⟨hf, ho, hc, q⟩ := q
  walk_at "w"
  refine ⟨v, f, rfl, hf, ho, hc, fun H1 S1 => ?_⟩
  walk_at "w"
  refine ⟨v, f, rfl, hf.same S1, hc, fun H2 S2 => ?_⟩
  exact q _ (S1.trans S2)
end
end K83
end
section
set_option maxRecDepth 100000
set_option maxHeartbeats 4000000
namespace K83
open PySem PySem.Spec PyProof.Rows L2
local macro_rules | `(tactic| walk_at "s") => `(tactic| first
  | with_reducible refine a_seq ?_ | ((with_reducible refine a_varX ?_); refine ⟨_, rfl, ?_⟩) | with_reducible refine a_c ?_ | with_reducible refine a_op ?_ | with_reducible refine a_rI0 ?_ | with_reducible refine a_cons ?_ | with_reducible refine a_nil ?_
  | with_reducible refine a_next ?_ | with_reducible refine a_ret ?_ | with_reducible refine a_retN ?_ | with_reducible refine a_drop ?_ | with_reducible refine a_if ?_ | with_reducible refine a_asg ?_ | with_reducible refine a_un ?_
  | with_reducible refine a_rU ?_ | with_reducible refine a_eqI ?_ | with_reducible refine a_neI ?_ | with_reducible refine a_eqS ?_ | with_reducible refine a_neS ?_ | with_reducible refine a_test ?_ | with_reducible refine a_tB ?_ | with_reducible refine a_bl ?_ | with_reducible refine a_int ?_
  | with_reducible refine a_and ?_ | with_reducible refine a_or ?_ | with_reducible refine a_not ?_ | with_reducible refine a_andV ?_ | with_reducible refine a_orV ?_ | with_reducible refine a_notV ?_ | with_reducible refine a_ifE ?_ | with_reducible refine a_chain ?_ | with_reducible refine a_call ?_ | with_reducible refine a_cb ?_ | with_reducible refine a_star ?_
  | ((with_reducible refine a_nameX ?_); refine ⟨_, (by simp only [L2.wipe, L2.start, List.map_cons, List.map_nil, List.length_cons, List.length_nil, List.replicate_succ, List.replicate_zero, Nat.reduceSub, Nat.reduceAdd, Nat.zero_add, List.cons_append, List.nil_append, List.set_cons_zero, List.set_cons_succ]; exact rfl), ?_⟩) | with_reducible refine a_gcons ?_ | with_reducible refine a_gnil ?_ | with_reducible refine a_gsub ?_ | with_reducible refine a_par ?_ | ((with_reducible refine a_parX rfl ?_); refine ⟨_, (by simp only [L2.wipe, L2.start, List.map_cons, List.map_nil, List.length_cons, List.length_nil, List.replicate_succ, List.replicate_zero, Nat.reduceSub, Nat.reduceAdd, Nat.zero_add, List.cons_append, List.nil_append, List.set_cons_zero, List.set_cons_succ]; exact rfl), ?_⟩) | ((with_reducible refine a_augX ?_); refine ⟨_, rfl, ?_⟩) | with_reducible refine a_ipI ?_ | with_reducible refine a_tup ?_ | with_reducible refine a_lst ?_ | with_reducible refine a_sl ?_ | with_reducible refine a_sslX ?_
  | with_reducible refine a_tsl ?_ | with_reducible refine a_noPart ?_ | with_reducible refine a_part ?_ | with_reducible refine a_i1 ?_ | with_reducible refine a_i1b ?_ | with_reducible refine a_mx ?_ | with_reducible refine a_mn ?_ | with_reducible refine a_ab ?_ | with_reducible refine a_mat ?_ | with_reducible refine a_case ?_
  | ((with_reducible refine a_oneS ?_ ?_); omega) | ((with_reducible refine a_mask 1 ?_ ?_); decide) | ((with_reducible refine a_mask 3 ?_ ?_); decide) | ((with_reducible refine a_mask 6 ?_ ?_); decide) | ((with_reducible refine a_mask 9 ?_ ?_); decide) | ((with_reducible refine a_rI ?_ ?_); first | exact ⟨by decide, by decide⟩ | decide)
  | ((with_reducible refine a_shlK 12 ?_ ?_ ?_); rfl; exact shl_small (by omega) (by omega) (by decide)) | ((with_reducible refine a_shlK 9 ?_ ?_ ?_); rfl; exact shl_small (by omega) (by omega) (by decide)) | ((with_reducible refine a_shlK 6 ?_ ?_ ?_); rfl; exact shl_small (by omega) (by omega) (by decide)) | with_reducible refine a_kdGet ?_
  | with_reducible refine a_bm0 ?_ | with_reducible refine a_bm ?_ | with_reducible refine a_dnewT ?_ | with_reducible refine a_gsl ?_ | with_reducible refine a_mk ?_
  | with_reducible refine a_dget2 ?_ | with_reducible refine a_dnewK ?_ | with_reducible refine a_tli ?_ | with_reducible refine a_pair ?_ | with_reducible refine a_pair0 ?_
  | with_reducible refine a_lc ?_ | with_reducible refine a_itup ?_ | with_reducible refine a_ilst ?_ | with_reducible refine a_yes ?_ | with_reducible refine a_iitems ?_ | with_reducible refine a_dc ?_ | with_reducible refine a_isN0 ?_ | with_reducible refine a_notN0 ?_ | with_reducible refine a_izip ?_ | with_reducible refine a_dget ?_ | with_reducible refine a_propSl ?_ | with_reducible refine a_methSl ?_ | with_reducible refine a_for ?_ | with_reducible refine a_rng1 ?_ | with_reducible refine a_rng2 ?_
  | with_reducible refine iteT ?_ | with_reducible refine iteF ?_)
local macro_rules | `(tactic| walk_at "t") => `(tactic| refine ⟨Nat.le_of_ble_eq_true rfl, a_new ?_⟩)
local macro_rules | `(tactic| walk_at "w") => `(tactic| repeat walk_at "s")
local macro_rules | `(tactic| walk_at "t0") => `(tactic| refine ⟨Nat.le_of_ble_eq_true rfl, ?_⟩)
/-! ## the steps as words -/
def enc : Ins → Int
  | .put g n => 9 * 2 ^ 12 + (g : Int) * 2 ^ 9 + n % 2 ^ 9
  | .load g c => 10 * 2 ^ 12 + (g : Int) * 2 ^ 9 + c
  | .op j g o => if j < 8 then (j : Int) * 2 ^ 12 + (g : Int) * 2 ^ 9 + (g : Int) * 2 ^ 6 + (o : Int) else 15 * 2 ^ 12 + (g : Int) * 2 ^ 9 + (o : Int) * 2 ^ 6 + ((j : Int) - 4)
def wordsV (l : List Ins) : List V := l.map fun i => V.int (enc i)
theorem sqL_same {K : PySem.W.Frag} {H H' : Hp} {a : Addr} {xs : List V} (S : Same H H') (h : SqL K H a xs) : SqL K H' a xs := S.seq h
def natV (rs : List Nat) : List V := rs.map fun (n : Nat) => V.int (n : Int)
theorem nmIx : ∀ j, j < 8 → ([("add" : Str), "sub", "and", "or", "xor", "less", "left", "right"])[j]? = some (nm j) ∧ ∀ m, m < j → ([("add" : Str), "sub", "and", "or", "xor", "less", "left", "right"])[m]? ≠ some (nm j) := by decide +kernel
theorem cut_drop (rs : List Nat) (k : Nat) (h : k ≤ rs.length) : cutV (natV rs) (some (k : Int)) none = natV (rs.drop k) := by
  unfold cutV natV
  rw [HT.sIx_nat, HT.sIx_none, List.length_map, Nat.min_eq_left h, List.map_drop]
  exact List.take_of_length_le (by rw [List.length_drop, List.length_map]; exact Nat.le_refl _)
section
variable {P : Program} {w : World} {K : PySem.W.Frag} {mg : Str → Option Value} {base : Heap}
/-! ### words_in -/
theorem sc_words_in : FnScope ["formula", "registers", "goal", "other", "words"] ["formula", "registers"] (defScope (top 72)) := ⟨rfl, rfl, rfl, by decide +kernel, rfl, by decide +kernel, by decide +kernel⟩
abbrev sp_words_in (K : PySem.W.Frag) (N : Nat) : Sp := fun vs H Q _ => ∃ (v : V) (a : Addr) (f : Fm) (rs : List Nat), vs = [v, .ref a] ∧ IsF H v f ∧ f.ok ∧ f.cnt ≤ N ∧ N ≤ 60 ∧ SqL K H a (natV rs) ∧ f.ht ≤ rs.length ∧ (rs.length ≤ 100 ∧ ∀ x ∈ rs, x < 8) ∧
  ∀ p H', Same H H' → H p = none → H' p = some (.lst (wordsV (comp f rs))) → Q (.ref p) H'
theorem ok_words_in (T : Txt w K mg base) : ∀ N : Nat, C8.Cal P w K mg base (N + 65) "words_in" (sp_words_in K N) []
  | 0 => by
    refine cal_of T.f_words_in T.m_words_in sc_words_in (fun vs H Q E h => ?_) (fun _ _ _ _ _ _ us hl => match us, hl with | [_, _], _ => rfl) fun cdv A outer s H vs Q E hr h => ?_
    · obtain ⟨_, _, _, _, rfl, _⟩ := h; rfl
    obtain ⟨v, a, f, rs, rfl, hf, ho, hN, q⟩ := h
    have := f.cnt_pos
    exact absurd hN (by omega)
  | N + 1 => by
    have ih := ok_words_in T N
    obtain ⟨es, n, D⟩ := T.lkt
    refine cal_of T.f_words_in T.m_words_in sc_words_in (fun vs H Q E h => ?_) (fun _ _ _ _ _ _ us hl => match us, hl with | [_, _], _ => rfl) fun cdv A outer s H vs Q E hr h => ?_
    · obtain ⟨_, _, _, _, rfl, _⟩ := h; rfl
    obtain ⟨v, a, f, rs, rfl, hf, ho, hN, hN6, hrs, hht, ⟨h100, hx⟩, q⟩ := h
    refine ⟨_, pss_cons (ps_set (i := 2) sc_words_in.nd rfl (Or.inl rfl) (pe_ix ix_list (pv 1) (pe_int) (fun _ _ => rfl)))
  (pss_cons (ps_if (pt_cmpR op_eq (pe_ix ix_tup (pv 0) (pe_int) (fun _ _ => rfl)) (C8.pe_gc rfl T.c_NUMBER) (nomark _))
    (pss_one (ps_ret (pe_lst (pa_cons (pe_op op_orLow (pe_op op_orLow (pe_op op_shlK (C8.pe_gc rfl T.c_OP_SET) (pe_int)) (pe_op op_shlK (pv 2) (pe_int))) (pe_op op_mask (pe_ix ix_tup (pv 0) (pe_int) (fun _ _ => rfl)) (pe_int))) pa_nil))))
    (pss_nil))
  (pss_cons (ps_if (pt_cmpR op_eq (pe_ix ix_tup (pv 0) (pe_int) (fun _ _ => rfl)) (C8.pe_gc rfl T.c_CELL) (nomark _))
    (pss_one (ps_ret (pe_lst (pa_cons (pe_op op_orLow (pe_op op_orLow (pe_op op_shlK (C8.pe_gc rfl T.c_OP_LOAD) (pe_int)) (pe_op op_shlK (pv 2) (pe_int))) (pe_ix ix_tup (pv 0) (pe_int) (fun _ _ => rfl))) pa_nil))))
    (pss_nil))
  (pss_cons (ps_set (i := 3) sc_words_in.nd rfl (Or.inl rfl) (pe_ix ix_list (pv 1) (pe_int) (fun _ _ => rfl)))
  (C8.pss_cut (ps_if (pt_cmpR op_ge (C8.pe_c (ok_height_in T N) hr (by omega) rfl (pa_cons (pe_ix ix_tup (pv 0) (pe_int) (fun _ _ => rfl)) pa_nil)) (C8.pe_c (ok_height_in T N) hr (by omega) rfl (pa_cons (pe_ix ix_tup (pv 0) (pe_int) (fun _ _ => rfl)) pa_nil)) (nomark _))
    (pss_one (ps_set (i := 4) sc_words_in.nd rfl (Or.inl rfl) (pe_lst (StX.pa_star (C8.pe_c (ih) hr (by omega) rfl (pa_cons (pe_ix ix_tup (pv 0) (pe_int) (fun _ _ => rfl)) (pa_cons (pv 1) pa_nil))) (StX.pa_star (C8.pe_c (ih) hr (by omega) rfl (pa_cons (pe_ix ix_tup (pv 0) (pe_int) (fun _ _ => rfl)) (pa_cons (pe_slice sl_list (pv 1) (po_some (pe_int)) po_none) pa_nil))) pa_nil)))))
    (pss_cons (ps_set (i := 4) sc_words_in.nd rfl (Or.inl rfl) (C8.pe_c (ih) hr (by omega) rfl (pa_cons (pe_ix ix_tup (pv 0) (pe_int) (fun _ _ => rfl)) (pa_cons (pe_lst (pa_cons (pv 3) (pa_cons (pv 2) (StX.pa_star (pe_slice sl_list (pv 1) (po_some (pe_int)) po_none) pa_nil)))) pa_nil))))
      (pss_one (ps_set (i := 4) sc_words_in.nd rfl (Or.inl rfl) (pe_lst (StX.pa_star (pv 4) (StX.pa_star (C8.pe_c (ih) hr (by omega) rfl (pa_cons (pe_ix ix_tup (pv 0) (pe_int) (fun _ _ => rfl)) (pa_cons (pe_lst (pa_cons (pv 2) (StX.pa_star (pe_slice sl_list (pv 1) (po_some (pe_int)) po_none) pa_nil))) pa_nil))) pa_nil)))))))
  (pss_cons (ps_if (pt_cmpR (op_inKd D) (pe_ix ix_tup (pv 0) (pe_int) (fun _ _ => rfl)) (C8.pe_gc rfl T.c_LONG_KINDS) rfl)
    (pss_one (ps_ret (pe_lst (StX.pa_star (pv 4) (pa_cons (pe_op op_orLow (pe_op op_orLow (pe_op op_orLow (pe_op op_shlK (C8.pe_gc rfl T.c_OP_SPECIAL) (pe_int)) (pe_op op_shlK (pv 2) (pe_int))) (pe_op op_shlK (pv 3) (pe_int))) (pe_kdGet D (C8.pe_gc rfl T.c_LONG_KINDS) (pe_ix ix_tup (pv 0) (pe_int) (fun _ _ => rfl)) (fun _ _ => rfl))) pa_nil)))))
    (pss_nil))
  (pss_one (ps_ret (pe_lst (StX.pa_star (pv 4) (pa_cons (pe_op op_orLow (pe_op op_orLow (pe_op op_orLow (pe_op op_shlK (pe_bm PySem.F.plainAttrs_tuple PySem.F.slot_tuple_index PySem.F.type_tuple_index mt_tix (C8.pe_gc rfl T.c_PLAIN_OPS) (pa_cons (pe_ix ix_tup (pv 0) (pe_int) (fun _ _ => rfl)) pa_nil)) (pe_int)) (pe_op op_shlK (pv 2) (pe_int))) (pe_op op_shlK (pv 2) (pe_int))) (pv 3)) pa_nil)))))))))), ?_⟩
    obtain ⟨g, tl, rfl⟩ : ∃ g tl, rs = g :: tl := by
      cases rs with
      | nil => have := f.ht_pos; exact absurd hht (by simp only [List.length_nil]; omega)
      | cons g tl => exact ⟨g, tl, rfl⟩
    have hg := hx g (List.mem_cons_self ..)
    walk_at "w"
    refine a_ixL hrs (at_of (j := 0) rfl rfl) ?_
    walk_at "w"
    cases f with
    | num n =>
      obtain ⟨b, rfl, hb⟩ := hf
      refine a_ixT (SqT.of hb) (at_of (j := 0) rfl rfl) ?_
      walk_at "w"
      refine d_t rfl ?_
      walk_at "w"
      refine a_orLow 9 12 rfl ⟨by omega, by omega, by omega⟩ ?_
      walk_at "w"
      refine a_ixT (SqT.of hb) (at_of (j := 1) rfl rfl) ?_
      walk_at "w"
      refine a_orLow (72 + (g : Int)) 9 (by omega) ⟨by omega, by omega, by omega⟩ ?_
      walk_at "w"
      walk_at "t"
      intro p H1 n1 S1 e1
      exact q p H1 S1 n1 e1
    | cell n =>
      obtain ⟨b, rfl, hb⟩ := hf
      obtain ⟨o1, o2⟩ : 0 ≤ n ∧ n ≤ 31 := ho
      refine a_ixT (SqT.of hb) (at_of (j := 0) rfl rfl) ?_
      walk_at "w"
      refine d_f (by decide +kernel) ?_
      walk_at "w"
      refine a_ixT (SqT.of hb) (at_of (j := 0) rfl rfl) ?_
      walk_at "w"
      refine d_t rfl ?_
      walk_at "w"
      refine a_orLow 10 12 rfl ⟨by omega, by omega, by omega⟩ ?_
      walk_at "w"
      refine a_ixT (SqT.of hb) (at_of (j := 1) rfl rfl) ?_
      walk_at "w"
      refine a_orLow (80 + (g : Int)) 9 (by omega) ⟨by omega, by omega, by omega⟩ ?_
      walk_at "w"
      walk_at "t"
      intro p H1 n1 S1 e1
      exact q p H1 S1 n1 e1
    | two j l r =>
      obtain ⟨b, y, z, rfl, hb, hl, hk⟩ := hf
      have hc2 := Fm.cnt_two j l r
      have p1 := l.cnt_pos
      have p2 := r.cnt_pos
      have t1 := l.ht_pos
      have t2 := r.ht_pos
      have hj : j < 11 := ho.1
      refine a_ixT (SqT.of hb) (at_of (j := 0) rfl rfl) ?_
      walk_at "w"
      refine d_f (by decide +kernel) ?_
      walk_at "w"
      refine a_ixT (SqT.of hb) (at_of (j := 0) rfl rfl) ?_
      walk_at "w"
      refine d_f (by decide +kernel) ?_
      walk_at "w"
      rw [Fm.ht_two] at hht
      obtain ⟨o, tl, rfl⟩ : ∃ o t, tl = o :: t := by
        cases tl with
        | nil => simp only [List.length_cons, List.length_nil] at hht; split at hht <;> omega
        | cons o t => exact ⟨o, t, rfl⟩
      have hoo := hx o (List.mem_cons_of_mem _ (List.mem_cons_self ..))
      simp only [List.length_cons] at hht h100
      refine a_ixL hrs (at_of (j := 1) rfl rfl) ?_
      walk_at "w"
      have LW : ∀ (f : Fm) (rs : List Nat), (wordsV (comp f rs)).length = f.cnt := fun f rs => by unfold wordsV; rw [List.length_map, comp_len]
      have LE : ∀ a b : List Ins, wordsV (a ++ b) = wordsV a ++ wordsV b := fun a b => by unfold wordsV; exact List.map_append
      have fit : ∀ n : Nat, n ≤ 200 → n ≤ sizeLine := fun n h => Nat.le_trans h (by decide)
      refine a_cut (fun σ' H' => ∃ W, σ' = [some (.ref b), some (.ref a), some (.int (g : Int)), some (.int (o : Int)), some (.ref W)] ∧ Same H H' ∧
        H' W = some (.lst (wordsV (if r.ht ≤ l.ht then comp l (g :: o :: tl) ++ comp r (o :: tl) else comp r (o :: g :: tl) ++ comp l (g :: tl))))) ?_ ?_
      · walk_at "w"
        refine a_ixT (SqT.of hb) (at_of (j := 2) rfl rfl) ?_
        walk_at "w"
        refine ⟨y, l, rfl, hl, by omega, fun H1 S1 => ?_⟩
        walk_at "w"
        refine a_ixT (SqT.of (via S1 hb)) (at_of (j := 3) rfl rfl) ?_
        walk_at "w"
        refine ⟨z, r, rfl, hk.same S1, by omega, fun H2 S2 => ?_⟩
        have S02 := S1.trans S2
        walk_at "w"
        refine d_ite (fun hc => ?_) fun hc => ?_
        · have hc' : r.ht ≤ l.ht := Int.ofNat_le.mp hc
          rw [if_pos hc']
          walk_at "w"
          refine a_ixT (SqT.of (via S02 hb)) (at_of (j := 2) rfl rfl) ?_
          walk_at "w"
          refine ⟨y, a, l, g :: o :: tl, rfl, hl.same S02, ho.2.1, by omega, by omega, sqL_same S02 hrs, by simp only [List.length_cons]; split at hht <;> omega, ⟨by simp only [List.length_cons]; omega, hx⟩, fun p3 H3 S3 n3 e3 => ?_⟩
          refine a_starL (SqL.of e3) ?_
          have S03 := S02.trans S3
          walk_at "w"
          refine a_ixT (SqT.of (via S03 hb)) (at_of (j := 3) rfl rfl) ?_
          walk_at "w"
          refine a_slL (sqL_same S03 hrs) (a_new fun p4 H4 n4 S4 e4 => ?_)
          rw [show cutV (natV (g :: o :: tl)) (some 1) none = natV (o :: tl) from cut_drop (g :: o :: tl) 1 (by simp)] at e4
          have S04 := S03.trans S4
          walk_at "w"
          refine ⟨z, p4, r, o :: tl, rfl, hk.same S04, ho.2.2, by omega, by omega, SqL.of e4, by simp only [List.length_cons]; split at hht <;> omega, ⟨by simp only [List.length_cons]; omega, fun x h => hx x (List.mem_cons_of_mem _ h)⟩, fun p5 H5 S5 n5 e5 => ?_⟩
          refine a_starL (SqL.of e5) ?_
          have S05 := S04.trans S5
          walk_at "w"
          refine ⟨fit _ (by rw [List.length_append, List.append_nil, LW, LW]; omega), a_new fun p6 H6 n6 S6 e6 => ?_⟩
          walk_at "w"
          exact ⟨p6, rfl, S05.trans S6, by rw [LE, e6, List.append_nil]⟩
        · have hc' : ¬ r.ht ≤ l.ht := fun h => hc (Int.ofNat_le.mpr h)
          rw [if_neg hc']
          walk_at "w"
          refine a_ixT (SqT.of (via S02 hb)) (at_of (j := 3) rfl rfl) ?_
          walk_at "w"
          refine a_slL (sqL_same S02 hrs) (a_new fun p3 H3 n3 S3 e3 => ?_)
          rw [show cutV (natV (g :: o :: tl)) (some 2) none = natV tl from cut_drop (g :: o :: tl) 2 (by simp)] at e3
          have S03 := S02.trans S3
          refine a_starL (SqL.of e3) ?_
          walk_at "w"
          refine ⟨fit _ (by unfold natV; simp only [List.length_cons, List.append_nil, List.length_map]; omega), a_new fun p4 H4 n4 S4 e4 => ?_⟩
          have S04 := S03.trans S4
          walk_at "w"
          have hx' : ∀ x ∈ o :: g :: tl, x < 8 := fun x h => by
            simp only [List.mem_cons] at h
            rcases h with h | h | h
            · rw [h]; exact hoo
            · rw [h]; exact hg
            · exact hx x (List.mem_cons_of_mem _ (List.mem_cons_of_mem _ h))
          refine ⟨z, p4, r, o :: g :: tl, rfl, hk.same S04, ho.2.2, by omega, by omega, SqL.of (by rw [e4, List.append_nil]; rfl), by simp only [List.length_cons]; split at hht <;> omega, ⟨by simp only [List.length_cons]; omega, hx'⟩, fun p5 H5 S5 n5 e5 => ?_⟩
          have S05 := S04.trans S5
          walk_at "w"
          refine a_starL (SqL.of e5) ?_
          walk_at "w"
          refine a_ixT (SqT.of (via S05 hb)) (at_of (j := 2) rfl rfl) ?_
          walk_at "w"
          refine a_slL (sqL_same S05 hrs) (a_new fun p6 H6 n6 S6 e6 => ?_)
          rw [show cutV (natV (g :: o :: tl)) (some 2) none = natV tl from cut_drop (g :: o :: tl) 2 (by simp)] at e6
          have S06 := S05.trans S6
          refine a_starL (SqL.of e6) ?_
          walk_at "w"
          refine ⟨fit _ (by unfold natV; simp only [List.length_cons, List.append_nil, List.length_map]; omega), a_new fun p7 H7 n7 S7 e7 => ?_⟩
          have S07 := S06.trans S7
          walk_at "w"
          refine ⟨y, p7, l, g :: tl, rfl, hl.same S07, ho.2.1, by omega, by omega, SqL.of (by rw [e7, List.append_nil]; rfl), by simp only [List.length_cons]; split at hht <;> omega, ⟨by simp only [List.length_cons]; omega, fun x h => hx' x (List.mem_cons_of_mem _ h)⟩, fun p8 H8 S8 n8 e8 => ?_⟩
          refine a_starL (SqL.of e8) ?_
          have S08 := S07.trans S8
          walk_at "w"
          refine ⟨fit _ (by rw [List.length_append, List.append_nil, LW, LW]; omega), a_new fun p9 H9 n9 S9 e9 => ?_⟩
          walk_at "w"
          exact ⟨p9, rfl, S08.trans S9, by rw [LE, e9, List.append_nil]⟩
      · intro σ' H' ⟨W, e, S1, eW⟩
        subst e
        have eC : comp (.two j l r) (g :: o :: tl) = (if r.ht ≤ l.ht then comp l (g :: o :: tl) ++ comp r (o :: tl) else comp r (o :: g :: tl) ++ comp l (g :: tl)) ++ [.op j g o] := by
          show (if r.ht ≤ l.ht then comp l (g :: o :: tl) ++ comp r (o :: tl) ++ [.op j g o] else comp r (o :: g :: tl) ++ comp l (g :: tl) ++ [.op j g o]) = _
          split <;> rfl
        have cW := comp_len (.two j l r) (g :: o :: tl)
        rw [eC, List.length_append] at cW
        rw [eC] at q
        generalize (if r.ht ≤ l.ht then comp l (g :: o :: tl) ++ comp r (o :: tl) else comp r (o :: g :: tl) ++ comp l (g :: tl)) = C at *
        have lW : (wordsV C ++ [V.int (enc (.op j g o))]).length ≤ sizeLine := fit _ (by
          unfold wordsV
          simp only [List.length_append, List.length_map, List.length_cons, List.length_nil] at cW ⊢
          omega)
        rw [LE] at q
        walk_at "w"
        refine a_ixT (SqT.of (via S1 hb)) (at_of (j := 1) rfl rfl) ?_
        walk_at "w"
        by_cases h8 : j < 8
        · refine a_inKd (lk_no T j h8) ?_
          walk_at "w"
          refine iteF ?_
          walk_at "w"
          refine a_starL (SqL.of eW) ?_
          walk_at "w"
          walk_at "w"
          refine ⟨.inr (.inl ⟨rfl, T.tn_PLAIN_OPS⟩), ?_⟩
          walk_at "w"
          refine a_ixT (SqT.of (via S1 hb)) (at_of (j := 1) rfl rfl) ?_
          walk_at "w"
          refine ⟨_, ["add", "sub", "and", "or", "xor", "less", "left", "right"], nm j, j, rfl, rfl, T.t_PLAIN_OPS _, (nmIx j h8).1, (nmIx j h8).2, ?_⟩
          walk_at "w"
          refine a_orLow (j : Int) 12 rfl ⟨by omega, by omega, by omega⟩ ?_
          walk_at "w"
          refine a_orLow ((j : Int) * 8 + g) 9 (by omega) ⟨by omega, by omega, by omega⟩ ?_
          walk_at "w"
          refine a_orLow (((j : Int) * 8 + g) * 8 + g) 6 (by omega) ⟨by omega, by omega, by omega⟩ ?_
          walk_at "w"
          have eE : enc (.op j g o) = (j : Int) * 2 ^ 12 + (g : Int) * 2 ^ 9 + (g : Int) * 2 ^ 6 + (o : Int) := if_pos h8
          rw [eE] at lW
          refine ⟨lW, a_new fun p2 H2 n2 S2 e2 => ?_⟩
          exact q p2 H2 (S1.trans S2) (S1.free n2) (by rw [e2]; unfold wordsV; rw [List.map_cons, eE]; rfl)
        · obtain ⟨u, eu, ru⟩ := lk_at T j (by omega) hj
          refine a_inKd eu ?_
          walk_at "w"
          refine iteT ?_
          walk_at "w"
          refine a_starL (SqL.of eW) ?_
          walk_at "w"
          refine a_orLow 15 12 rfl ⟨by omega, by omega, by omega⟩ ?_
          walk_at "w"
          refine a_orLow (120 + (g : Int)) 9 (by omega) ⟨by omega, by omega, by omega⟩ ?_
          walk_at "w"
          refine a_ixT (SqT.of (via S1 hb)) (at_of (j := 1) rfl rfl) ?_
          walk_at "w"
          refine ⟨_, u, _, rfl, rfl, eu, ru, ?_⟩
          refine a_orLow ((120 + (g : Int)) * 8 + o) 6 (by omega) ⟨by omega, by omega, by omega⟩ ?_
          walk_at "w"
          have eE : enc (.op j g o) = 15 * 2 ^ 12 + (g : Int) * 2 ^ 9 + (o : Int) * 2 ^ 6 + ((j : Int) - 4) := if_neg h8
          rw [eE] at lW
          refine ⟨lW, a_new fun p2 H2 n2 S2 e2 => ?_⟩
          exact q p2 H2 (S1.trans S2) (S1.free n2) (by rw [e2]; unfold wordsV; rw [List.map_cons, eE]; rfl)
end
end K83
end
section
set_option maxRecDepth 100000
set_option maxHeartbeats 4000000
namespace K83
open PySem PySem.Spec PyProof.Rows L2
local macro_rules | `(tactic| walk_at "s") => `(tactic| first
  | with_reducible refine a_seq ?_ | ((with_reducible refine a_varX ?_); refine ⟨_, rfl, ?_⟩) | with_reducible refine a_c ?_ | with_reducible refine a_op ?_ | with_reducible refine a_rI0 ?_ | with_reducible refine a_cons ?_ | with_reducible refine a_nil ?_
  | with_reducible refine a_next ?_ | with_reducible refine a_ret ?_ | with_reducible refine a_retN ?_ | with_reducible refine a_drop ?_ | with_reducible refine a_if ?_ | with_reducible refine a_asg ?_ | with_reducible refine a_un ?_
  | with_reducible refine a_rU ?_ | with_reducible refine a_eqI ?_ | with_reducible refine a_neI ?_ | with_reducible refine a_eqS ?_ | with_reducible refine a_neS ?_ | with_reducible refine a_test ?_ | with_reducible refine a_tB ?_ | with_reducible refine a_bl ?_ | with_reducible refine a_int ?_
  | with_reducible refine a_and ?_ | with_reducible refine a_or ?_ | with_reducible refine a_not ?_ | with_reducible refine a_andV ?_ | with_reducible refine a_orV ?_ | with_reducible refine a_notV ?_ | with_reducible refine a_ifE ?_ | with_reducible refine a_chain ?_ | with_reducible refine a_call ?_ | with_reducible refine a_cb ?_ | with_reducible refine a_star ?_
  | ((with_reducible refine a_nameX ?_); refine ⟨_, (by simp only [L2.wipe, L2.start, List.map_cons, List.map_nil, List.length_cons, List.length_nil, List.replicate_succ, List.replicate_zero, Nat.reduceSub, Nat.reduceAdd, Nat.zero_add, List.cons_append, List.nil_append, List.set_cons_zero, List.set_cons_succ]; exact rfl), ?_⟩) | with_reducible refine a_gcons ?_ | with_reducible refine a_gnil ?_ | with_reducible refine a_gsub ?_ | with_reducible refine a_par ?_ | ((with_reducible refine a_parX rfl ?_); refine ⟨_, (by simp only [L2.wipe, L2.start, List.map_cons, List.map_nil, List.length_cons, List.length_nil, List.replicate_succ, List.replicate_zero, Nat.reduceSub, Nat.reduceAdd, Nat.zero_add, List.cons_append, List.nil_append, List.set_cons_zero, List.set_cons_succ]; exact rfl), ?_⟩) | ((with_reducible refine a_augX ?_); refine ⟨_, rfl, ?_⟩) | with_reducible refine a_ipI ?_ | with_reducible refine a_tup ?_ | with_reducible refine a_lst ?_ | with_reducible refine a_sl ?_ | with_reducible refine a_sslX ?_
  | with_reducible refine a_tsl ?_ | with_reducible refine a_noPart ?_ | with_reducible refine a_part ?_ | with_reducible refine a_i1 ?_ | with_reducible refine a_i1b ?_ | with_reducible refine a_mx ?_ | with_reducible refine a_mn ?_ | with_reducible refine a_ab ?_ | with_reducible refine a_mat ?_ | with_reducible refine a_case ?_
  | ((with_reducible refine a_oneS ?_ ?_); omega) | ((with_reducible refine a_mask 1 ?_ ?_); decide) | ((with_reducible refine a_mask 3 ?_ ?_); decide) | ((with_reducible refine a_mask 6 ?_ ?_); decide) | ((with_reducible refine a_mask 9 ?_ ?_); decide) | ((with_reducible refine a_rI ?_ ?_); first | exact ⟨by decide, by decide⟩ | decide)
  | ((with_reducible refine a_shlK 12 ?_ ?_ ?_); rfl; exact shl_small (by omega) (by omega) (by decide)) | ((with_reducible refine a_shlK 9 ?_ ?_ ?_); rfl; exact shl_small (by omega) (by omega) (by decide)) | ((with_reducible refine a_shlK 6 ?_ ?_ ?_); rfl; exact shl_small (by omega) (by omega) (by decide)) | with_reducible refine a_kdGet ?_
  | with_reducible refine a_bm0 ?_ | with_reducible refine a_bm ?_ | with_reducible refine a_dnewT ?_ | with_reducible refine a_gsl ?_ | with_reducible refine a_mk ?_
  | with_reducible refine a_dget2 ?_ | with_reducible refine a_dnewK ?_ | with_reducible refine a_tli ?_ | with_reducible refine a_pair ?_ | with_reducible refine a_pair0 ?_
  | with_reducible refine a_lc ?_ | with_reducible refine a_itup ?_ | with_reducible refine a_ilst ?_ | with_reducible refine a_yes ?_ | with_reducible refine a_iitems ?_ | with_reducible refine a_dc ?_ | with_reducible refine a_isN0 ?_ | with_reducible refine a_notN0 ?_ | with_reducible refine a_izip ?_ | with_reducible refine a_dget ?_ | with_reducible refine a_propSl ?_ | with_reducible refine a_methSl ?_ | with_reducible refine a_for ?_ | with_reducible refine a_rng1 ?_ | with_reducible refine a_rng2 ?_
  | with_reducible refine iteT ?_ | with_reducible refine iteF ?_)
local macro_rules | `(tactic| walk_at "t") => `(tactic| refine ⟨Nat.le_of_ble_eq_true rfl, a_new ?_⟩)
local macro_rules | `(tactic| walk_at "w") => `(tactic| repeat walk_at "s")
local macro_rules | `(tactic| walk_at "t0") => `(tactic| refine ⟨Nat.le_of_ble_eq_true rfl, ?_⟩)
/-! ## the places of a formula's nodes -/
abbrev Pth := List Key
def paths : Pth → Fm → List Pth
  | p, .num _ => [p]
  | p, .cell _ => [p]
  | p, .two _ l r => p :: (paths (p ++ [.inl 0]) l ++ paths (p ++ [.inl 1]) r)
theorem paths_len : ∀ (f : Fm) (p : Pth), (paths p f).length = f.cnt
  | .num _, _ => rfl
  | .cell _, _ => rfl
  | .two j l r, p => by
    unfold paths
    rw [List.length_cons, List.length_append, paths_len l, paths_len r]; rfl
theorem paths_pre : ∀ (f : Fm) (p q : Pth), q ∈ paths p f → ∃ t, q = p ++ t
  | .num _, p, q, h => ⟨[], by rw [List.mem_singleton.mp h, List.append_nil]⟩
  | .cell _, p, q, h => ⟨[], by rw [List.mem_singleton.mp h, List.append_nil]⟩
  | .two j l r, p, q, h => by
    unfold paths at h
    rcases List.mem_cons.mp h with h | h
    · exact ⟨[], by rw [h, List.append_nil]⟩
    · rcases List.mem_append.mp h with h | h
      · obtain ⟨t, e⟩ := paths_pre l _ q h; exact ⟨_, by rw [e, List.append_assoc]⟩
      · obtain ⟨t, e⟩ := paths_pre r _ q h; exact ⟨_, by rw [e, List.append_assoc]⟩
theorem paths_nd : ∀ (f : Fm) (p : Pth), (paths p f).Nodup
  | .num _, p => List.nodup_cons.mpr ⟨List.not_mem_nil, List.nodup_nil⟩
  | .cell _, p => List.nodup_cons.mpr ⟨List.not_mem_nil, List.nodup_nil⟩
  | .two j l r, p => by
    unfold paths
    have far : ∀ (k : Key) (t : Pth), p ≠ p ++ [k] ++ t := fun k t e => by
      have := congrArg List.length e
      simp only [List.length_append, List.length_cons, List.length_nil] at this
      omega
    refine List.nodup_cons.mpr ⟨fun h => ?_, List.nodup_append.mpr ⟨paths_nd l _, paths_nd r _, fun a ha b hb e => ?_⟩⟩
    · rcases List.mem_append.mp h with h | h
      · obtain ⟨t, e⟩ := paths_pre l _ p h; exact far _ _ e
      · obtain ⟨t, e⟩ := paths_pre r _ p h; exact far _ _ e
    · obtain ⟨t, e1⟩ := paths_pre l _ a ha
      obtain ⟨u, e2⟩ := paths_pre r _ b hb
      have z : p ++ ([(.inl 0 : Key)] ++ t) = p ++ ([(.inl 1 : Key)] ++ u) := by rw [← List.append_assoc, ← List.append_assoc, ← e1, ← e2, e]
      have z2 := List.append_cancel_left z
      simp at z2
/-- the tuples stay -/
def KeepT (H H' : Hp) : Prop := ∀ b xs, H b = some (.tup xs) → H' b = some (.tup xs)
theorem keepT_of {H H' : Hp} (S : Same H H') : KeepT H H' := fun b xs e => S b _ e
theorem keepT_upd {H : Hp} {L : Addr} {o u : HO} (hL : H L = some o) (hn : ∀ xs, o ≠ .tup xs) : KeepT H (upd H L u) := fun b xs e => by
  rw [upd_ne fun z => hn xs (by rw [z, hL] at e; exact Option.some.inj e)]; exact e
theorem IsF.keep {H H' : Hp} (S : KeepT H H') : ∀ {f : Fm} {v : V}, IsF H v f → IsF H' v f
  | .num n, v, h => by obtain ⟨a, e, q⟩ := h; exact ⟨a, e, S _ _ q⟩
  | .cell c, v, h => by obtain ⟨a, e, q⟩ := h; exact ⟨a, e, S _ _ q⟩
  | .two j l r, v, h => by obtain ⟨a, x, y, e, q, h1, h2⟩ := h; exact ⟨a, x, y, e, S _ _ q, h1.keep S, h2.keep S⟩
/-- an entry of the stack: a path and its formula -/
def IsE (H : Hp) (v : V) (e : Pth × Fm) : Prop := ∃ t pa x, v = .ref t ∧ H t = some (.tup [.ref pa, x]) ∧ H pa = some (.tup (e.1.map kV)) ∧ IsF H x e.2
theorem IsE.keep {H H' : Hp} (S : KeepT H H') {v : V} {e : Pth × Fm} (h : IsE H v e) : IsE H' v e := by
  obtain ⟨t, pa, x, e1, e2, e3, e4⟩ := h
  exact ⟨t, pa, x, e1, S _ _ e2, S _ _ e3, e4.keep S⟩
inductive AreE (H : Hp) : List V → List (Pth × Fm) → Prop
  | nil : AreE H [] []
  | cons {v : V} {e : Pth × Fm} {vs : List V} {es : List (Pth × Fm)} : IsE H v e → AreE H vs es → AreE H (v :: vs) (e :: es)
theorem AreE.keep {H H' : Hp} (S : KeepT H H') {vs : List V} {es : List (Pth × Fm)} (h : AreE H vs es) : AreE H' vs es := by
  induction h with
  | nil => exact .nil
  | cons a _ ih => exact .cons (a.keep S) ih
theorem AreE.app {H : Hp} {vs ws : List V} {es gs : List (Pth × Fm)} (h : AreE H vs es) (k : AreE H ws gs) : AreE H (vs ++ ws) (es ++ gs) := by
  induction h with
  | nil => exact k
  | cons a _ ih => exact .cons a ih
theorem AreE.len {H : Hp} {vs : List V} {es : List (Pth × Fm)} (h : AreE H vs es) : vs.length = es.length := by
  induction h with
  | nil => rfl
  | cons a _ ih => exact congrArg Nat.succ ih
theorem AreE.last {H : Hp} {vs : List V} {es : List (Pth × Fm)} (h : AreE H vs es) (hn : es ≠ []) : ∃ v e ws gs, vs = ws ++ [v] ∧ es = gs ++ [e] ∧ IsE H v e ∧ AreE H ws gs := by
  induction h with
  | nil => exact absurd rfl hn
  | cons a t ih =>
    rename_i v e vs es
    cases es with
    | nil => cases t; exact ⟨v, e, [], [], rfl, rfl, a, .nil⟩
    | cons g gs =>
      obtain ⟨v', f', ws, gs', e1, e2, h1, h2⟩ := ih (List.cons_ne_nil _ _)
      exact ⟨v', f', v :: ws, e :: gs', by rw [e1]; rfl, by rw [e2]; rfl, h1, .cons a h2⟩
def keyD : Key → PyData
  | .inl i => .int i
  | .inr x => .str x
def datE (e : Pth × Fm) : PyData := .tuple [.tuple (e.1.map keyD), e.2.dat]
theorem dp_path {K : PySem.W.Frag} {H : Hp} : ∀ p : Pth, DpAll K H (p.map kV) (p.map keyD)
  | [] => .nil
  | .inl i :: r => .cons (.int i) (dp_path r)
  | .inr x :: r => .cons (.str x) (dp_path r)
theorem AreE.dp {K : PySem.W.Frag} {H : Hp} {vs : List V} {es : List (Pth × Fm)} (h : AreE H vs es) : DpAll K H vs (es.map datE) := by
  induction h with
  | nil => exact .nil
  | cons a _ ih =>
    obtain ⟨t, pa, x, rfl, e2, e3, e4⟩ := a
    exact .cons (.tup (SqT.of e2) (.cons (.tup (SqT.of e3) (dp_path _)) (.cons e4.dp .nil))) ih
def intP (p : Pth) : Prop := ∀ k ∈ p, ∃ i, k = .inl i
theorem ints_lay : ∀ {p : Pth}, intP p → PyData.canLayAll0 (p.map keyD) = true ∧ PyData.depthAll (p.map keyD) = 0
  | [], _ => ⟨rfl, rfl⟩
  | k :: r, h => by
    obtain ⟨i, rfl⟩ := h k (List.mem_cons_self ..)
    obtain ⟨h1, h2⟩ := ints_lay (p := r) fun k hk => h k (List.mem_cons_of_mem _ hk)
    constructor
    · show PyData.canLayAll0 (.int i :: r.map keyD) = true
      simp only [PyData.canLayAll0, PyData.canLay0, h1, Bool.and_true]
    · show PyData.depthAll (.int i :: r.map keyD) = 0
      simp only [PyData.depthAll, PyData.depth, h2]; rfl
def sumE : List (Pth × Fm) → Nat
  | [] => 0
  | e :: es => e.2.cnt + sumE es
theorem sumE_app : ∀ (a b : List (Pth × Fm)), sumE (a ++ b) = sumE a + sumE b
  | [], b => by simp [sumE]
  | f :: a, b => by show f.2.cnt + sumE (a ++ b) = f.2.cnt + sumE a + sumE b; rw [sumE_app a b]; omega
theorem len_sumE : ∀ es : List (Pth × Fm), es.length ≤ sumE es
  | [] => Nat.le_refl _
  | f :: fs => by
    have := f.2.cnt_pos
    have := len_sumE fs
    show fs.length + 1 ≤ f.2.cnt + sumE fs
    omega
theorem lay_allE : ∀ es : List (Pth × Fm), (∀ e ∈ es, intP e.1) → PyData.canLayAll0 (es.map datE) = true ∧ PyData.depthAll (es.map datE) ≤ sumE es + 1
  | [], _ => ⟨rfl, Nat.zero_le _⟩
  | e :: es, h => by
    obtain ⟨h1, d1⟩ := e.2.lay
    obtain ⟨h2, d2⟩ := lay_allE es fun k hk => h k (List.mem_cons_of_mem _ hk)
    obtain ⟨h3, d3⟩ := ints_lay (h e (List.mem_cons_self ..))
    have hp := e.2.cnt_pos
    constructor
    · show PyData.canLayAll0 (.tuple [.tuple (e.1.map keyD), e.2.dat] :: es.map datE) = true
      simp only [PyData.canLayAll0, PyData.canLay0, h1, h2, h3, Bool.and_true]
    · show PyData.depthAll (.tuple [.tuple (e.1.map keyD), e.2.dat] :: es.map datE) ≤ e.2.cnt + sumE es + 1
      simp only [PyData.depthAll, PyData.depth, d3]; omega
theorem shaped_listE {es : List (Pth × Fm)} (hi : ∀ e ∈ es, intP e.1) (h : sumE es ≤ 60) : SeqAt.shaped (.list (es.map datE)) = true := by
  obtain ⟨h1, h2⟩ := lay_allE es hi
  unfold SeqAt.shaped
  simp only [PyData.canLay0, PyData.depth, h1, Bool.true_and]
  exact decide_eq_true (by omega)
def allP (es : List (Pth × Fm)) : List Pth := es.flatMap fun e => paths e.1 e.2
section
variable {P : Program} {w : World} {K : PySem.W.Frag} {mg : Str → Option Value} {base : Heap}
/-! ### nodes_of -/
theorem sc_nodes_of : FnScope ["formula", "found", "waiting", "path", "here"] ["formula"] (defScope (top 71)) := ⟨rfl, rfl, rfl, by decide +kernel, rfl, by decide +kernel, by decide +kernel⟩
abbrev sp_nodes_of : Sp := fun vs H Q _ => ∃ (v : V) (f : Fm), vs = [v] ∧ IsF H v f ∧ f.cnt ≤ 60 ∧ ∀ p (kvs : List (List Key × V)) H', Same H H' → H' p = some (.dT kvs) → kvs.length = f.cnt → Q (.ref p) H'
/-- a place with its formula, small -/
def okE (e : Pth × Fm) : Prop := intP e.1 ∧ e.1.length + e.2.cnt ≤ 60
/-- what nodes_of holds at a turn -/
def StN (H0 : Hp) (v : V) (F L : Addr) (T m : Nat) (σ : L2.St) (H : Hp) : Prop :=
  ∃ (vs : List V) (es : List (Pth × Fm)) (kvs : List (List Key × V)) (o1 o2 : Option V), σ = [some v, some (.ref F), some (.ref L), o1, o2] ∧ H L = some (.lst vs) ∧ H F = some (.dT kvs) ∧ AreE H vs es ∧ (∀ e ∈ es, okE e) ∧
    kvs.length + sumE es = T ∧ m = sumE es ∧ (kvs.map (·.1) ++ allP es).Nodup ∧ Same H0 H
theorem ok_nodes_of (T : Txt w K mg base) : C8.Cal P w K mg base 2 "nodes_of" sp_nodes_of [] := by
  refine cal_of T.f_nodes_of T.m_nodes_of sc_nodes_of (fun vs H Q E h => ?_) (fun _ _ _ _ _ _ us hl => match us, hl with | [_], _ => rfl) fun cdv A outer s H vs Q E hr h => ?_
  · obtain ⟨_, _, rfl, _⟩ := h; rfl
  obtain ⟨v, f, rfl, hf, hc, q⟩ := h
  refine ⟨_, pss_cons (ps_par (i := 1) (j := 2) rfl sc_nodes_of.nd rfl rfl (by decide) rfl rfl (pa_cons (pe_dnewT) (pa_cons (pe_lst (pa_cons (pe_tup (pa_cons (pe_tup pa_nil) (pa_cons (pv 0) pa_nil))) pa_nil)) pa_nil)) rfl)
  (pss_cons (ps_while PassesOwn.never (pt_cmpR (op_neD hr.units) (pv 2) (pe_lst (pa_nil)) (nomark _))
    (pss_cons (ps_asg (pe_bm0 PySem.F.plainAttrs_list PySem.F.slot_list_pop PySem.F.type_list_pop mt_pop (pv 2)) (pg_tup rfl (pgs_cons (pg_name (i := 3) sc_nodes_of.nd rfl (Or.inl rfl)) (pgs_cons (pg_name (i := 4) sc_nodes_of.nd rfl (Or.inl rfl)) pgs_nil))))
      (pss_cons (ps_asg (pv 4) (pg_sub (pv 1) (pv 3) (set_dict (hu_of hr))))
      (pss_one (ps_if (pt_not (pt_val (C8.pe_c (ok_is_leaf T) hr (by omega) rfl (pa_cons (pv 4) pa_nil))))
        (pss_one (ps_expr (pe_bm PySem.F.plainAttrs_list PySem.F.slot_list_extend PySem.F.type_list_extend mt_extend (pv 2) (pa_cons (pe_lst (pa_cons (pe_tup (pa_cons (pe_tup (StX.pa_star (pv 3) (pa_cons (pe_int) pa_nil))) (pa_cons (pe_ix ix_tup (pv 4) (pe_int) (fun _ _ => rfl)) pa_nil))) (pa_cons (pe_tup (pa_cons (pe_tup (StX.pa_star (pv 3) (pa_cons (pe_int) pa_nil))) (pa_cons (pe_ix ix_tup (pv 4) (pe_int) (fun _ _ => rfl)) pa_nil))) pa_nil))) pa_nil))))
        (pss_nil))))))
  (pss_one (ps_ret (pv 1)))), ?_⟩
  walk_at "w"
  refine a_new fun F H1 n1 S1 e1 => ?_
  walk_at "w"
  walk_at "t"
  intro pa H2 n2 S2 e2
  walk_at "w"
  walk_at "t"
  intro t H3 n3 S3 e3
  walk_at "w"
  walk_at "t"
  intro L H4 n4 S4 e4
  walk_at "w"
  have nF : H F = none := n1
  have nL : H L = none := ((S1.trans S2).trans S3).free n4
  have hFL : F ≠ L := fun z => by
    have := via S3 (via S2 e1)
    rw [z, n4] at this; cases this
  refine a_while (StN H v F L f.cnt) ⟨f.cnt, [.ref t], [([], f)], [], none, none, rfl, e4, via S4 (via S3 (via S2 e1)), .cons ⟨t, pa, v, rfl, via S4 e3, via S4 (via S3 e2), hf.same (((S1.trans S2).trans S3).trans S4)⟩ .nil,
    fun e he => by rw [List.mem_singleton.mp he]; exact ⟨fun k hk => (nomatch hk), (by simp only [List.length_nil]; omega)⟩, by simp [sumE], by simp [sumE], by simpa [allP] using paths_nd f [], ((S1.trans S2).trans S3).trans S4⟩ fun m σ H5 hW => ?_
  obtain ⟨vs, es, kvs, o1, o2, rfl, hL, hF, hA, hi, hm, rfl, hnd, S5⟩ := hW
  walk_at "w"
  walk_at "t"
  intro p H6 n6 S6 e6
  refine ⟨_, _, .lst (SqL.of (via S6 hL)) (hA.keep (keepT_of S6)).dp, .lst (SqL.of e6) .nil, shaped_listE (fun e he => (hi e he).1) (by omega), by decide, ?_⟩
  walk_at "w"
  by_cases hn : es = []
  · subst hn
    cases hA
    refine d_bf rfl ?_
    walk_at "w"
    exact q F kvs H6 (S5.trans S6) (via S6 hF) (by simpa [sumE] using hm)
  obtain ⟨x, ⟨pth, g⟩, ws, gs, rfl, rfl, hx, hws⟩ := (hA.keep (keepT_of S6)).last hn
  have hF6 := via S6 hF
  have hL6 := via S6 hL
  have S06 := S5.trans S6
  have hpos := g.cnt_pos
  have hsum := sumE_app gs [(pth, g)]
  rw [show sumE [(pth, g)] = g.cnt from rfl] at hsum
  refine d_bt (by cases gs <;> rfl) (w_in ?_)
  walk_at "w"
  walk_at "w"
  refine ⟨ty_list (SqL.of hL6), a_pop hL6 (y := x) (by simp) ?_⟩
  rw [List.dropLast_concat]
  have kT : KeepT H6 (upd H6 L (.lst ws)) := keepT_upd hL6 fun _ z => nomatch z
  have S7 : Same H (upd H6 L (.lst ws)) := same_upd S06 nL
  have hx7 := hx.keep kT
  have hws7 := hws.keep kT
  have hL7 : upd H6 L (.lst ws) L = some (.lst ws) := upd_same
  have hF7 : upd H6 L (.lst ws) F = some (.dT kvs) := by rw [upd_ne hFL]; exact hF6
  generalize upd H6 L (.lst ws) = H7 at *
  obtain ⟨t', pa', y, rfl, et, ep, hy⟩ := hx7
  walk_at "w"
  refine a_gtup (SqT.of et) rfl ?_
  walk_at "w"
  have hkn : valV kvs pth = none := by
    cases hv : valV kvs pth with
    | none => rfl
    | some z =>
      have m1 : pth ∈ kvs.map (·.1) := valV_in hv
      have m2 : pth ∈ allP (gs ++ [(pth, g)]) := List.mem_flatMap.mpr ⟨(pth, g), by simp, by cases g <;> simp [paths]⟩
      exact absurd rfl ((List.nodup_append.mp hnd).2.2 pth m1 pth m2)
  refine ⟨F, _, rfl, DPut.t hF7 ep (Nat.lt_of_le_of_lt (by omega : kvs.length ≤ 60) (by decide)), ?_⟩
  rw [putK_new _ hkn]
  have kT8 : KeepT H7 (upd H7 F (.dT (kvs ++ [(pth, y)]))) := keepT_upd hF7 fun _ z => nomatch z
  have S8 : Same H (upd H7 F (.dT (kvs ++ [(pth, y)]))) := same_upd S7 nF
  have hy8 := hy.keep kT8
  have hws8 := hws7.keep kT8
  have ep8 := kT8 _ _ ep
  have hF8 : upd H7 F (.dT (kvs ++ [(pth, y)])) F = some (.dT (kvs ++ [(pth, y)])) := upd_same
  have hL8 : upd H7 F (.dT (kvs ++ [(pth, y)])) L = some (.lst ws) := by rw [upd_ne hFL.symm]; exact hL7
  generalize upd H7 F (.dT (kvs ++ [(pth, y)])) = H8 at *
  walk_at "w"
  refine ⟨y, g, rfl, hy8, fun H9 S9 => ?_⟩
  walk_at "w"
  have hkey : (kvs ++ [(pth, y)]).map (·.1) = kvs.map (·.1) ++ [pth] := by rw [List.map_append]; rfl
  obtain ⟨hpi, hpl⟩ : okE (pth, g) := hi (pth, g) (by simp)
  simp only at hpi hpl
  have hgi : ∀ e ∈ gs, okE e := fun e he => hi e (List.mem_append_left _ he)
  have hfl : allP (gs ++ [(pth, g)]) = allP gs ++ paths pth g := by unfold allP; rw [List.flatMap_append]; simp
  rw [hfl] at hnd
  have hlen : (kvs ++ [(pth, y)]).length = kvs.length + 1 := by simp
  cases g with
  | num n =>
    have hc1 : (Fm.num n).cnt = 1 := rfl
    refine iteF ?_
    walk_at "w"
    refine ⟨sumE gs, by omega, ws, gs, _, some (.ref pa'), some y, rfl, via S9 hL8, via S9 hF8, hws8.keep (keepT_of S9), hgi, by omega, rfl, ?_, S8.trans S9⟩
    rw [hkey]
    refine (List.Perm.nodup_iff ?_).mp hnd
    rw [List.append_assoc]
    exact List.Perm.append_left _ List.perm_append_comm
  | cell n =>
    have hc1 : (Fm.cell n).cnt = 1 := rfl
    refine iteF ?_
    walk_at "w"
    refine ⟨sumE gs, by omega, ws, gs, _, some (.ref pa'), some y, rfl, via S9 hL8, via S9 hF8, hws8.keep (keepT_of S9), hgi, by omega, rfl, ?_, S8.trans S9⟩
    rw [hkey]
    refine (List.Perm.nodup_iff ?_).mp hnd
    rw [List.append_assoc]
    exact List.Perm.append_left _ List.perm_append_comm
  | two j l r =>
    obtain ⟨b, u1, u2, rfl, hb, hl, hk⟩ := hy8
    have hc2 := Fm.cnt_two j l r
    refine iteT ?_
    walk_at "w"
    walk_at "w"
    refine ⟨ty_list (SqL.of (via S9 hL8)), ?_⟩
    walk_at "w"
    refine a_starT (SqT.of (via S9 ep8)) ?_
    walk_at "w"
    have pl : (pth.map kV ++ [V.int 0]).length ≤ sizeLine ∧ (pth.map kV ++ [V.int 1]).length ≤ sizeLine := by
      simp only [List.length_append, List.length_map, List.length_cons, List.length_nil]
      exact ⟨Nat.le_trans (by omega : _ ≤ 64) (by decide), Nat.le_trans (by omega : _ ≤ 64) (by decide)⟩
    refine ⟨pl.1, a_new fun q1 G1 m1 R1 d1 => ?_⟩
    walk_at "w"
    refine a_ixT (SqT.of (via R1 (via S9 hb))) (at_of (j := 2) rfl rfl) ?_
    walk_at "w"
    walk_at "t"
    intro q2 G2 m2 R2 d2
    walk_at "w"
    have R02 := R1.trans R2
    refine a_starT (SqT.of (via R02 (via S9 ep8))) ?_
    walk_at "w"
    refine ⟨pl.2, a_new fun q3 G3 m3 R3 d3 => ?_⟩
    have R03 := R02.trans R3
    walk_at "w"
    refine a_ixT (SqT.of (via R03 (via S9 hb))) (at_of (j := 3) rfl rfl) ?_
    walk_at "w"
    walk_at "t"
    intro q4 G4 m4 R4 d4
    walk_at "w"
    walk_at "t"
    intro q5 G5 m5 R5 d5
    walk_at "w"
    have R05 := (R03.trans R4).trans R5
    have hL9 := via R05 (via S9 hL8)
    have wl : ws.length ≤ sumE gs := by rw [hws.len]; exact len_sumE gs
    refine a_extend hL9 d5 (Nat.le_trans (by simp only [List.length_cons, List.length_nil]; omega : _ ≤ 64) (by decide)) ?_
    walk_at "w"
    have kL : KeepT G5 (upd G5 L (.lst (ws ++ [.ref q2, .ref q4]))) := keepT_upd hL9 fun _ z => nomatch z
    have S95 := S9.trans R05
    have hA10 : AreE G5 (ws ++ [.ref q2, .ref q4]) (gs ++ [(pth ++ [.inl 0], l), (pth ++ [.inl 1], r)]) := by
      refine (hws8.keep (keepT_of S95)).app (.cons ⟨q2, q1, u1, rfl, via ((R3.trans R4).trans R5) d2, ?_, hl.same S95⟩ (.cons ⟨q4, q3, u2, rfl, via R5 d4, ?_, hk.same S95⟩ .nil))
      · show G5 q1 = some (.tup ((pth ++ [(.inl 0 : Key)]).map kV))
        rw [List.map_append]; exact via (((R2.trans R3).trans R4).trans R5) d1
      · show G5 q3 = some (.tup ((pth ++ [(.inl 1 : Key)]).map kV))
        rw [List.map_append]; exact via (R4.trans R5) d3
    have ip : ∀ i : Int, intP (pth ++ [.inl i]) := fun i k hk => by
      rcases List.mem_append.mp hk with hk | hk
      · exact hpi k hk
      · exact ⟨i, List.mem_singleton.mp hk⟩
    refine ⟨sumE (gs ++ [(pth ++ [.inl 0], l), (pth ++ [.inl 1], r)]), by rw [sumE_app, hsum, hc2]; show sumE gs + (l.cnt + (r.cnt + 0)) < _; omega, _, _, _, some (.ref pa'), some (.ref b), rfl, upd_same, by rw [upd_ne hFL]; exact via S95 hF8, hA10.keep kL, fun e he => ?_,
      by rw [sumE_app]; show (kvs ++ _).length + (sumE gs + (l.cnt + (r.cnt + 0))) = f.cnt; omega, rfl, ?_, same_upd (S8.trans S95) nL⟩
    · rcases List.mem_append.mp he with he | he
      · exact hgi e he
      · simp only [List.mem_cons, List.not_mem_nil, or_false] at he
        rcases he with rfl | rfl
        · exact ⟨ip 0, by simp only [List.length_append, List.length_cons, List.length_nil]; omega⟩
        · exact ⟨ip 1, by simp only [List.length_append, List.length_cons, List.length_nil]; omega⟩
    · rw [hkey]
      refine (List.Perm.nodup_iff ?_).mp hnd
      have e1 : allP (gs ++ [(pth ++ [.inl 0], l), (pth ++ [.inl 1], r)]) = allP gs ++ (paths (pth ++ [.inl 0]) l ++ paths (pth ++ [.inl 1]) r) := by unfold allP; rw [List.flatMap_append]; simp
      rw [e1, List.append_assoc]
      refine List.Perm.append_left _ ?_
      show (allP gs ++ (pth :: (paths (pth ++ [.inl 0]) l ++ paths (pth ++ [.inl 1]) r))).Perm (pth :: (allP gs ++ (paths (pth ++ [.inl 0]) l ++ paths (pth ++ [.inl 1]) r)))
      exact List.perm_middle
end
end K83
end
section
set_option maxRecDepth 100000
set_option maxHeartbeats 4000000
namespace K83
open PySem PySem.Spec PyProof.Rows L2
local macro_rules | `(tactic| walk_at "s") => `(tactic| first
  | with_reducible refine a_seq ?_ | ((with_reducible refine a_varX ?_); refine ⟨_, rfl, ?_⟩) | with_reducible refine a_c ?_ | with_reducible refine a_op ?_ | with_reducible refine a_rI0 ?_ | with_reducible refine a_cons ?_ | with_reducible refine a_nil ?_
  | with_reducible refine a_next ?_ | with_reducible refine a_ret ?_ | with_reducible refine a_retN ?_ | with_reducible refine a_drop ?_ | with_reducible refine a_if ?_ | with_reducible refine a_asg ?_ | with_reducible refine a_un ?_
  | with_reducible refine a_rU ?_ | with_reducible refine a_eqI ?_ | with_reducible refine a_neI ?_ | with_reducible refine a_eqS ?_ | with_reducible refine a_neS ?_ | with_reducible refine a_test ?_ | with_reducible refine a_tB ?_ | with_reducible refine a_bl ?_ | with_reducible refine a_int ?_
  | with_reducible refine a_and ?_ | with_reducible refine a_or ?_ | with_reducible refine a_not ?_ | with_reducible refine a_andV ?_ | with_reducible refine a_orV ?_ | with_reducible refine a_notV ?_ | with_reducible refine a_ifE ?_ | with_reducible refine a_chain ?_ | with_reducible refine a_call ?_ | with_reducible refine a_cb ?_ | with_reducible refine a_star ?_
  | ((with_reducible refine a_nameX ?_); refine ⟨_, (by simp only [L2.wipe, L2.start, List.map_cons, List.map_nil, List.length_cons, List.length_nil, List.replicate_succ, List.replicate_zero, Nat.reduceSub, Nat.reduceAdd, Nat.zero_add, List.cons_append, List.nil_append, List.set_cons_zero, List.set_cons_succ]; exact rfl), ?_⟩) | with_reducible refine a_gcons ?_ | with_reducible refine a_gnil ?_ | with_reducible refine a_gsub ?_ | with_reducible refine a_par ?_ | ((with_reducible refine a_parX rfl ?_); refine ⟨_, (by simp only [L2.wipe, L2.start, List.map_cons, List.map_nil, List.length_cons, List.length_nil, List.replicate_succ, List.replicate_zero, Nat.reduceSub, Nat.reduceAdd, Nat.zero_add, List.cons_append, List.nil_append, List.set_cons_zero, List.set_cons_succ]; exact rfl), ?_⟩) | ((with_reducible refine a_augX ?_); refine ⟨_, rfl, ?_⟩) | with_reducible refine a_ipI ?_ | with_reducible refine a_tup ?_ | with_reducible refine a_lst ?_ | with_reducible refine a_sl ?_ | with_reducible refine a_sslX ?_
  | with_reducible refine a_tsl ?_ | with_reducible refine a_noPart ?_ | with_reducible refine a_part ?_ | with_reducible refine a_i1 ?_ | with_reducible refine a_i1b ?_ | with_reducible refine a_mx ?_ | with_reducible refine a_mn ?_ | with_reducible refine a_ab ?_ | with_reducible refine a_mat ?_ | with_reducible refine a_case ?_
  | ((with_reducible refine a_oneS ?_ ?_); omega) | ((with_reducible refine a_mask 1 ?_ ?_); decide) | ((with_reducible refine a_mask 3 ?_ ?_); decide) | ((with_reducible refine a_mask 6 ?_ ?_); decide) | ((with_reducible refine a_mask 9 ?_ ?_); decide) | ((with_reducible refine a_rI ?_ ?_); first | exact ⟨by decide, by decide⟩ | decide)
  | ((with_reducible refine a_shlK 12 ?_ ?_ ?_); rfl; exact shl_small (by omega) (by omega) (by decide)) | ((with_reducible refine a_shlK 9 ?_ ?_ ?_); rfl; exact shl_small (by omega) (by omega) (by decide)) | ((with_reducible refine a_shlK 6 ?_ ?_ ?_); rfl; exact shl_small (by omega) (by omega) (by decide)) | with_reducible refine a_kdGet ?_
  | with_reducible refine a_bm0 ?_ | with_reducible refine a_bm ?_ | with_reducible refine a_dnewT ?_ | with_reducible refine a_gsl ?_ | with_reducible refine a_mk ?_
  | with_reducible refine a_dget2 ?_ | with_reducible refine a_dnewK ?_ | with_reducible refine a_tli ?_ | with_reducible refine a_pair ?_ | with_reducible refine a_pair0 ?_
  | with_reducible refine a_lc ?_ | with_reducible refine a_itup ?_ | with_reducible refine a_ilst ?_ | with_reducible refine a_yes ?_ | with_reducible refine a_iitems ?_ | with_reducible refine a_dc ?_ | with_reducible refine a_isN0 ?_ | with_reducible refine a_notN0 ?_ | with_reducible refine a_izip ?_ | with_reducible refine a_dget ?_ | with_reducible refine a_propSl ?_ | with_reducible refine a_methSl ?_ | with_reducible refine a_for ?_ | with_reducible refine a_rng1 ?_ | with_reducible refine a_rng2 ?_
  | with_reducible refine iteT ?_ | with_reducible refine iteF ?_)
local macro_rules | `(tactic| walk_at "t") => `(tactic| refine ⟨Nat.le_of_ble_eq_true rfl, a_new ?_⟩)
local macro_rules | `(tactic| walk_at "w") => `(tactic| repeat walk_at "s")
local macro_rules | `(tactic| walk_at "t0") => `(tactic| refine ⟨Nat.le_of_ble_eq_true rfl, ?_⟩)
section
variable {P : Program} {w : World} {K : PySem.W.Frag} {mg : Str → Option Value} {base : Heap}
/-- v is a Shape of m bits, R registers -/
def IsSh (K : PySem.W.Frag) (H : Hp) (v : V) (m R : Nat) : Prop := ∃ a dx, v = .ref a ∧ SlX.Slt H a (He.ga K "Shape") dx [some (.int (R : Int)), some (.int (m : Int))]
theorem IsSh.same {H H' : Hp} {v : V} {m R : Nat} (S : Same H H') (h : IsSh K H v m R) : IsSh K H' v m R := by
  obtain ⟨a, dx, e, q⟩ := h
  exact ⟨a, dx, e, slt_same S q⟩
/-! ### Shape -/
theorem sc_Shape_init : FnScope ["self", "width", "registers"] ["self", "width", "registers"] (defScope (inClass (top 42) 1)) := ⟨rfl, rfl, rfl, by decide +kernel, rfl, by decide +kernel, by decide +kernel⟩
abbrev sp_Shape_init (K : PySem.W.Frag) : Sp := fun vs H Q _ => ∃ (x dx : Addr) (m R : Nat), vs = [.ref x, .int (m : Int), .int (R : Int)] ∧ H x = some (.ins (He.ga K "Shape") dx []) ∧ dx ≠ x ∧ (4 ≤ m ∧ m ≤ 16) ∧ (R = 2 ∨ R = 4 ∨ R = 8) ∧
  ∀ H', But2 x dx H H' → SlX.Slt H' x (He.ga K "Shape") dx [some (.int (R : Int)), some (.int (m : Int))] → Q .non H'
theorem mk_Shape (T : Txt w K mg base) : C8.Mak P w K mg base 3 "Shape" (He.ga K "Shape") (sp_Shape_init K) [] := by
  refine mak_of T.mk_Shape T.m_Shape T.f_Shape_init sc_Shape_init (fun vs H Q E h => ?_) (fun _ _ _ _ _ _ us hl => match us, hl with | [_, _, _], _ => rfl) fun cdv A outer s H vs Q E hr h => ?_
  · obtain ⟨_, _, _, _, rfl, _⟩ := h; rfl
  obtain ⟨x, dx, m, R, rfl, hx, hne, hm, hR, q⟩ := h
  refine ⟨_, pss_cons (ps_if (pt_not (pt_val (C8.pe_c (ok_is_within T) hr (by omega) rfl (pa_cons (pv 1) (pa_cons (C8.pe_gc rfl T.c_LEAST_WIDTH) (pa_cons (C8.pe_gc rfl T.c_MOST_WIDTH) pa_nil))))))
    (pss_one (ps_never))
    (pss_nil))
  (pss_cons (ps_if (PW.pt (pw_or (pt_not (pt_val (C8.pe_c (ok_is_integer T) hr (by omega) rfl (pa_cons (pv 2) pa_nil)))) (pw_or1 (pt_cmpR op_notIn_seq (pv 2) (C8.pe_gc rfl T.c_REGISTER_NUMBERS) rfl))))
    (pss_one (ps_never))
    (pss_nil))
  (pss_cons (SlX.ps_sl (pv 0) (pv 1))
  (pss_one (SlX.ps_sl (pv 0) (pv 2))))), ?_⟩
  walk_at "w"
  refine ⟨_, _, _, rfl, fun H1 S1 => ?_⟩
  rw [show decide (4 ≤ (m : Int) ∧ (m : Int) ≤ 16) = true from decide_eq_true (by omega)]
  walk_at "w"
  refine iteF ?_
  walk_at "w"
  refine ⟨_, rfl, fun H2 S2 => ?_⟩
  walk_at "w"
  refine iteF ?_
  walk_at "w"
  refine a_inT (T.t_REGISTER_NUMBERS H2) rfl rfl ?_
  walk_at "w"
  refine d_bf ?_ ?_
  · rcases hR with rfl | rfl | rfl <;> decide
  walk_at "w"
  have s0 : SlX.Slt H2 x (He.ga K "Shape") dx [] := .inl ⟨via S2 (via S1 hx), rfl⟩
  refine a_put T.sc_Shape T.s_Shape_own_width s0 ?_
  have s1 := slt_ne (i := 1) (v := .int (m : Int)) s0 hne
  walk_at "w"
  refine a_put T.sc_Shape T.s_Shape_own_registers s1 ?_
  have s2 := slt_ne (i := 0) (v := .int (R : Int)) s1 hne
  exact q _ (((But2.refl x dx H).same (S1.trans S2)).slH).slH s2
/-! ### require_shape -/
theorem sc_require_shape : FnScope ["shape"] ["shape"] (defScope (top 43)) := ⟨rfl, rfl, rfl, by decide +kernel, rfl, by decide +kernel, by decide +kernel⟩
abbrev sp_require_shape (K : PySem.W.Frag) : Sp := fun vs H Q _ => ∃ (v : V) (m R : Nat), vs = [v] ∧ IsSh K H v m R ∧ ∀ H', Same H H' → Q .non H'
theorem ok_require_shape (T : Txt w K mg base) : C8.Cal P w K mg base 1 "require_shape" (sp_require_shape K) [] := by
  refine cal_of T.f_require_shape T.m_require_shape sc_require_shape (fun vs H Q E h => ?_) (fun _ _ _ _ _ _ us hl => match us, hl with | [_], _ => rfl) fun cdv A outer s H vs Q E hr h => ?_
  · obtain ⟨_, _, _, rfl, _⟩ := h; rfl
  obtain ⟨v, m, R, rfl, q⟩ := h
  refine ⟨_, pss_one (ps_if (pt_not (pt_val (pe_callB (SlX.call_isiSl (.ref (He.ga K "Shape"))) (by rfl) T.n_isinstance (by decide +kernel) (pa_cons (pv 0) (pa_cons (C8.pe_gc rfl T.c_Shape) pa_nil)))))
    (pss_one (ps_never))
    (pss_nil)), ?_⟩
  obtain ⟨⟨a, dx, rfl, hs⟩, q⟩ := q
  walk_at "w"
  refine a_isiSl rfl (fun w e => e) hs T.sc_Shape T.si_Shape T.k_Shape_Shape ?_
  walk_at "w"
  refine iteF ?_
  walk_at "w"
  exact q _ (Same.refl _)
/-! ### require_step_word, given_by -/
theorem sc_require_step_word : FnScope ["word"] ["word"] (defScope (top 51)) := ⟨rfl, rfl, rfl, by decide +kernel, rfl, by decide +kernel, by decide +kernel⟩
abbrev sp_require_step_word : Sp := fun vs H Q _ => ∃ (a : Int), vs = [.int a] ∧ (0 ≤ a ∧ a ≤ 65535) ∧ ∀ H', Same H H' → Q .non H'
theorem ok_require_step_word (T : Txt w K mg base) : C8.Cal P w K mg base 4 "require_step_word" sp_require_step_word [] := by
  refine cal_of T.f_require_step_word T.m_require_step_word sc_require_step_word (fun vs H Q E h => ?_) (fun _ _ _ _ _ _ us hl => match us, hl with | [_], _ => rfl) fun cdv A outer s H vs Q E hr h => ?_
  · obtain ⟨_, rfl, _⟩ := h; rfl
  obtain ⟨a, rfl, q⟩ := h
  refine ⟨_, pss_one (ps_if (pt_not (pt_val (C8.pe_c (ok_is_step_word T) hr (by omega) rfl (pa_cons (pv 0) pa_nil))))
    (pss_one (ps_never))
    (pss_nil)), ?_⟩
  obtain ⟨ha, q⟩ := q
  walk_at "w"
  refine ⟨a, rfl, fun H1 S1 => ?_⟩
  rw [decide_eq_true ha]
  walk_at "w"
  refine iteF ?_
  walk_at "w"
  exact q _ S1
/-- a step that keeps to the registers below R -/
def Ins.fit (R : Nat) : Ins → Prop
  | .put g n => 0 < g ∧ g < R ∧ -256 ≤ n ∧ n ≤ 255
  | .load g c => 0 < g ∧ g < R ∧ 0 ≤ c ∧ c ≤ 31
  | .op j g o => j < 11 ∧ 0 < g ∧ g < R ∧ 0 < o ∧ o < R
def Ins.goal : Ins → Nat
  | .put g _ => g
  | .load g _ => g
  | .op _ g _ => g
/-- a word's fields -/
def fOp (x : Int) : Int := x / 4096
def fA (x : Int) : Int := x / 512 % 8
def fB (x : Int) : Int := x / 64 % 8
def fC (x : Int) : Int := x % 64
theorem encP (g : Nat) (n : Int) : enc (.put g n) = 36864 + (g : Int) * 512 + n % 512 := rfl
theorem encL (g : Nat) (c : Int) : enc (.load g c) = 40960 + (g : Int) * 512 + c := rfl
theorem encO {j g o : Nat} (h : j < 8) : enc (.op j g o) = (j : Int) * 4096 + (g : Int) * 512 + (g : Int) * 64 + (o : Int) := if_pos h
theorem encK {j g o : Nat} (h : ¬ j < 8) : enc (.op j g o) = 61440 + (g : Int) * 512 + (o : Int) * 64 + ((j : Int) - 4) := if_neg h
/-- the four fields of a word that is put together from them -/
theorem four {x a b c d : Int} (e : x = a * 4096 + b * 512 + c * 64 + d) (hb : 0 ≤ b ∧ b < 8) (hc : 0 ≤ c ∧ c < 8) (hd : 0 ≤ d ∧ d < 64) : fOp x = a ∧ fA x = b ∧ fB x = c ∧ fC x = d := by
  have h1 : x / 4096 = a := by omega
  have h2 : x / 512 = a * 8 + b := by omega
  have h3 : x / 64 = (a * 8 + b) * 8 + c := by omega
  have h4 : x % 64 = d := by omega
  refine ⟨h1, ?_, ?_, h4⟩
  · unfold fA; rw [h2]; omega
  · unfold fB; rw [h3]; omega
theorem enc_put {R g : Nat} {n : Int} (hR : R ≤ 8) (h : Ins.fit R (.put g n)) : fOp (enc (.put g n)) = 9 ∧ fA (enc (.put g n)) = g ∧ fB (enc (.put g n)) = n % 512 / 64 ∧ fC (enc (.put g n)) = n % 512 % 64 := by
  obtain ⟨h1, h2, h3, h4⟩ := h
  exact four (by rw [encP]; omega) (by omega) (by omega) (by omega)
theorem enc_load {R g : Nat} {c : Int} (hR : R ≤ 8) (h : Ins.fit R (.load g c)) : fOp (enc (.load g c)) = 10 ∧ fA (enc (.load g c)) = g ∧ fB (enc (.load g c)) = 0 ∧ fC (enc (.load g c)) = c := by
  obtain ⟨h1, h2, h3, h4⟩ := h
  exact four (by rw [encL]; omega) (by omega) (by omega) (by omega)
theorem enc_plain {R j g o : Nat} (hR : R ≤ 8) (h : Ins.fit R (.op j g o)) (hj : j < 8) : fOp (enc (.op j g o)) = j ∧ fA (enc (.op j g o)) = g ∧ fB (enc (.op j g o)) = g ∧ fC (enc (.op j g o)) = o := by
  obtain ⟨h0, h1, h2, h3, h4⟩ := h
  exact four (encO hj) (by omega) (by omega) (by omega)
theorem enc_long {R j g o : Nat} (hR : R ≤ 8) (h : Ins.fit R (.op j g o)) (hj : ¬ j < 8) : fOp (enc (.op j g o)) = 15 ∧ fA (enc (.op j g o)) = g ∧ fB (enc (.op j g o)) = o ∧ fC (enc (.op j g o)) = (j : Int) - 4 := by
  obtain ⟨h0, h1, h2, h3, h4⟩ := h
  exact four (by rw [encK hj]; omega) (by omega) (by omega) (by omega)
theorem enc_word {R : Nat} (hR : R ≤ 8) {i : Ins} (h : i.fit R) : 0 ≤ enc i ∧ enc i ≤ 65535 := by
  cases i with
  | put g n => obtain ⟨h1, h2, h3, h4⟩ := h; rw [encP]; omega
  | load g c => obtain ⟨h1, h2, h3, h4⟩ := h; rw [encL]; omega
  | op j g o =>
    obtain ⟨h0, h1, h2, h3, h4⟩ := h
    by_cases hj : j < 8
    · rw [encO hj]; omega
    · rw [encK hj]; omega
theorem enc_goal {R : Nat} (hR : R ≤ 8) {i : Ins} (h : i.fit R) : fA (enc i) = i.goal := by
  cases i with
  | put g n => exact (enc_put hR h).2.1
  | load g c => exact (enc_load hR h).2.1
  | op j g o =>
    by_cases hj : j < 8
    · exact (enc_plain hR h hj).2.1
    · exact (enc_long hR h hj).2.1
theorem sc_given_by : FnScope ["shape", "word", "op", "first", "second", "third", "is_kept"] ["shape", "word"] (defScope (top 52)) := ⟨rfl, rfl, rfl, by decide +kernel, rfl, by decide +kernel, by decide +kernel⟩
abbrev sp_given_by (K : PySem.W.Frag) : Sp := fun vs H Q _ => ∃ (v : V) (m R : Nat) (i : Ins), vs = [v, .int (enc i)] ∧ IsSh K H v m R ∧ (2 ≤ R ∧ R ≤ 8) ∧ i.fit R ∧ ∀ H', Same H H' → Q (.int (i.goal : Int)) H'
theorem ok_given_by (T : Txt w K mg base) : C8.Cal P w K mg base 5 "given_by" (sp_given_by K) [] := by
  refine cal_of T.f_given_by T.m_given_by sc_given_by (fun vs H Q E h => ?_) (fun _ _ _ _ _ _ us hl => match us, hl with | [_, _], _ => rfl) fun cdv A outer s H vs Q E hr h => ?_
  · obtain ⟨_, _, _, _, rfl, _⟩ := h; rfl
  obtain ⟨v, m, R, i, rfl, q⟩ := h
  refine ⟨_, pss_cons (ps_expr (C8.pe_c (ok_require_shape T) hr (by omega) rfl (pa_cons (pv 0) pa_nil)))
  (pss_cons (ps_expr (C8.pe_c (ok_require_step_word T) hr (by omega) rfl (pa_cons (pv 1) pa_nil)))
  (pss_cons (ps_asg (C8.pe_c (ok_fields_in T) hr (by omega) rfl (pa_cons (pv 1) pa_nil)) (pg_tup rfl (pgs_cons (pg_name (i := 2) sc_given_by.nd rfl (Or.inl rfl)) (pgs_cons (pg_name (i := 3) sc_given_by.nd rfl (Or.inl rfl)) (pgs_cons (pg_name (i := 4) sc_given_by.nd rfl (Or.inl rfl)) (pgs_cons (pg_name (i := 5) sc_given_by.nd rfl (Or.inl rfl)) pgs_nil))))))
  (pss_cons (ps_set (i := 6) sc_given_by.nd rfl (Or.inl rfl) (pe_or (pe_cmpR op_in_seq (pv 2) (pe_tup (pa_cons (C8.pe_gc rfl T.c_OP_STORE) (pa_cons (C8.pe_gc rfl T.c_OP_SAME) (pa_cons (C8.pe_gc rfl T.c_OP_UNDER) pa_nil)))) rfl) (pe_one (pe_and (pe_cmpR op_eq (pv 2) (C8.pe_gc rfl T.c_OP_SPECIAL) (nomark _)) (pe_one (pe_not (pe_chain op_le op_le (C8.pe_gc rfl T.c_TIMES_STEP) (pv 5) (C8.pe_gc rfl T.c_REST_STEP))))))))
  (pss_one (ps_ret (pe_ifExp (pt_val (pv 6)) (pe_int) (pe_op op_mod (pv 3) (SlX.pe_sl (pv 0))))))))), ?_⟩
  obtain ⟨hs, hR, hi, q⟩ := q
  have hg := enc_goal hR.2 hi
  have hgl : i.goal < R := by cases i <;> simp only [Ins.fit, Ins.goal] at hi ⊢ <;> omega
  walk_at "w"
  refine ⟨v, m, R, rfl, hs, fun H1 S1 => ?_⟩
  walk_at "w"
  refine ⟨_, rfl, enc_word hR.2 hi, fun H2 S2 => ?_⟩
  walk_at "w"
  refine ⟨_, rfl, fun p H3 n3 S3 e3 => ?_⟩
  refine a_gtup (SqT.of e3) rfl ?_
  walk_at "w"
  walk_at "t"
  intro p4 H4 n4 S4 e4
  refine a_inT (SqT.of e4) rfl rfl ?_
  have S04 := ((S1.trans S2).trans S3).trans S4
  obtain ⟨a, dx, rfl, hsl⟩ := hs.same S04
  have kept : inV (.int (enc i / 4096)) [.int 11, .int 12, .int 13] = false ∧ (enc i / 4096 = 15 → 4 ≤ enc i % 64 ∧ enc i % 64 ≤ 6) := by
    have f3 : ∀ x : Int, x < 11 ∨ x = 15 → inV (.int x) [.int 11, .int 12, .int 13] = false := fun x hx => by
      show ((11 == x) || ((12 == x) || ((13 == x) || false))) = false
      simp only [Bool.or_false, Bool.or_eq_false_iff, beq_eq_false_iff_ne]
      omega
    cases i with
    | put g n => have := enc_put hR.2 hi; exact ⟨f3 _ (by have := this.1; unfold fOp at this; omega), fun e => by have := this.1; unfold fOp at this; omega⟩
    | load g n => have := enc_load hR.2 hi; exact ⟨f3 _ (by have := this.1; unfold fOp at this; omega), fun e => by have := this.1; unfold fOp at this; omega⟩
    | op j g o =>
      by_cases hj : j < 8
      · have := enc_plain hR.2 hi hj; exact ⟨f3 _ (by have := this.1; unfold fOp at this; omega), fun e => by have := this.1; unfold fOp at this; omega⟩
      · have := enc_long hR.2 hi hj; exact ⟨f3 _ (by have := this.1; unfold fOp at this; omega), fun e => by have k := this.2.2.2; unfold fC at k; have hj2 : j < 11 := hi.1; omega⟩
  rw [if_neg Bool.false_ne_true, kept.1]
  walk_at "w"
  have fin : SlX.Slt H4 a (He.ga K "Shape") dx [some (.int (R : Int)), some (.int (m : Int))] := hsl
  have hgo : (enc i / 512 % 8) % (R : Int) = (i.goal : Int) := by
    rw [show enc i / 512 % 8 = (i.goal : Int) from hg]
    exact Int.emod_eq_of_lt (by omega) (by omega)
  by_cases h15 : enc i / 4096 = 15
  · refine d_t h15 ?_
    walk_at "w"
    refine d_t (kept.2 h15).1 ?_
    walk_at "w"
    rw [decide_eq_true (kept.2 h15).2]
    walk_at "w"
    refine iteF ?_
    walk_at "w"
    refine a_slot T.sc_Shape T.s_Shape_own_registers fin rfl ?_
    refine a_rI (show (0 : Int) < R by omega) ?_
    rw [hgo]
    exact q _ S04
  · refine d_f h15 ?_
    walk_at "w"
    refine a_slot T.sc_Shape T.s_Shape_own_registers fin rfl ?_
    refine a_rI (show (0 : Int) < R by omega) ?_
    rw [hgo]
    exact q _ S04
end
end K83
end
section
set_option maxRecDepth 100000
set_option maxHeartbeats 4000000
namespace K83
open PySem PySem.Spec PyProof.Rows L2
local macro_rules | `(tactic| walk_at "s") => `(tactic| first
  | with_reducible refine a_seq ?_ | ((with_reducible refine a_varX ?_); refine ⟨_, rfl, ?_⟩) | with_reducible refine a_c ?_ | with_reducible refine a_op ?_ | with_reducible refine a_rI0 ?_ | with_reducible refine a_cons ?_ | with_reducible refine a_nil ?_
  | with_reducible refine a_next ?_ | with_reducible refine a_ret ?_ | with_reducible refine a_retN ?_ | with_reducible refine a_drop ?_ | with_reducible refine a_if ?_ | with_reducible refine a_asg ?_ | with_reducible refine a_un ?_
  | with_reducible refine a_rU ?_ | with_reducible refine a_eqI ?_ | with_reducible refine a_neI ?_ | with_reducible refine a_eqS ?_ | with_reducible refine a_neS ?_ | with_reducible refine a_test ?_ | with_reducible refine a_tB ?_ | with_reducible refine a_bl ?_ | with_reducible refine a_int ?_
  | with_reducible refine a_and ?_ | with_reducible refine a_or ?_ | with_reducible refine a_not ?_ | with_reducible refine a_andV ?_ | with_reducible refine a_orV ?_ | with_reducible refine a_notV ?_ | with_reducible refine a_ifE ?_ | with_reducible refine a_chain ?_ | with_reducible refine a_call ?_ | with_reducible refine a_cb ?_ | with_reducible refine a_star ?_
  | ((with_reducible refine a_nameX ?_); refine ⟨_, (by simp only [L2.wipe, L2.start, List.map_cons, List.map_nil, List.length_cons, List.length_nil, List.replicate_succ, List.replicate_zero, Nat.reduceSub, Nat.reduceAdd, Nat.zero_add, List.cons_append, List.nil_append, List.set_cons_zero, List.set_cons_succ]; exact rfl), ?_⟩) | with_reducible refine a_gcons ?_ | with_reducible refine a_gnil ?_ | with_reducible refine a_gsub ?_ | with_reducible refine a_par ?_ | ((with_reducible refine a_parX rfl ?_); refine ⟨_, (by simp only [L2.wipe, L2.start, List.map_cons, List.map_nil, List.length_cons, List.length_nil, List.replicate_succ, List.replicate_zero, Nat.reduceSub, Nat.reduceAdd, Nat.zero_add, List.cons_append, List.nil_append, List.set_cons_zero, List.set_cons_succ]; exact rfl), ?_⟩) | ((with_reducible refine a_augX ?_); refine ⟨_, rfl, ?_⟩) | with_reducible refine a_ipI ?_ | with_reducible refine a_tup ?_ | with_reducible refine a_lst ?_ | with_reducible refine a_sl ?_ | with_reducible refine a_sslX ?_
  | with_reducible refine a_tsl ?_ | with_reducible refine a_noPart ?_ | with_reducible refine a_part ?_ | with_reducible refine a_i1 ?_ | with_reducible refine a_i1b ?_ | with_reducible refine a_mx ?_ | with_reducible refine a_mn ?_ | with_reducible refine a_ab ?_ | with_reducible refine a_mat ?_ | with_reducible refine a_case ?_
  | ((with_reducible refine a_oneS ?_ ?_); omega) | ((with_reducible refine a_mask 1 ?_ ?_); decide) | ((with_reducible refine a_mask 3 ?_ ?_); decide) | ((with_reducible refine a_mask 6 ?_ ?_); decide) | ((with_reducible refine a_mask 9 ?_ ?_); decide) | ((with_reducible refine a_rI ?_ ?_); first | exact ⟨by decide, by decide⟩ | decide)
  | ((with_reducible refine a_shlK 12 ?_ ?_ ?_); rfl; exact shl_small (by omega) (by omega) (by decide)) | ((with_reducible refine a_shlK 9 ?_ ?_ ?_); rfl; exact shl_small (by omega) (by omega) (by decide)) | ((with_reducible refine a_shlK 6 ?_ ?_ ?_); rfl; exact shl_small (by omega) (by omega) (by decide)) | with_reducible refine a_kdGet ?_
  | with_reducible refine a_bm0 ?_ | with_reducible refine a_bm ?_ | with_reducible refine a_dnewT ?_ | with_reducible refine a_gsl ?_ | with_reducible refine a_mk ?_
  | with_reducible refine a_dget2 ?_ | with_reducible refine a_dnewK ?_ | with_reducible refine a_tli ?_ | with_reducible refine a_pair ?_ | with_reducible refine a_pair0 ?_
  | with_reducible refine a_lc ?_ | with_reducible refine a_itup ?_ | with_reducible refine a_ilst ?_ | with_reducible refine a_yes ?_ | with_reducible refine a_iitems ?_ | with_reducible refine a_dc ?_ | with_reducible refine a_isN0 ?_ | with_reducible refine a_notN0 ?_ | with_reducible refine a_izip ?_ | with_reducible refine a_dget ?_ | with_reducible refine a_propSl ?_ | with_reducible refine a_methSl ?_ | with_reducible refine a_for ?_ | with_reducible refine a_rng1 ?_ | with_reducible refine a_rng2 ?_
  | with_reducible refine iteT ?_ | with_reducible refine iteF ?_)
local macro_rules | `(tactic| walk_at "t") => `(tactic| refine ⟨Nat.le_of_ble_eq_true rfl, a_new ?_⟩)
local macro_rules | `(tactic| walk_at "w") => `(tactic| repeat walk_at "s")
local macro_rules | `(tactic| walk_at "t0") => `(tactic| refine ⟨Nat.le_of_ble_eq_true rfl, ?_⟩)
theorem cutT {xs : List V} {k : Nat} (h : k ≤ xs.length) : cutV xs none (some (k : Int)) = xs.take k := by
  unfold cutV
  rw [HT.sIx_nat, HT.sIx_none, Nat.min_eq_left h, List.drop_zero, Nat.sub_zero]
theorem cutD {xs : List V} {k : Nat} (h : k ≤ xs.length) : cutV xs (some (k : Int)) none = xs.drop k := by
  unfold cutV
  rw [HT.sIx_nat, HT.sIx_none, Nat.min_eq_left h]
  exact List.take_of_length_le (by rw [List.length_drop]; exact Nat.le_refl _)
def intV (r : List Int) : List V := r.map V.int
theorem intV_len (r : List Int) : (intV r).length = r.length := List.length_map ..
theorem intV_set (r : List Int) (i : Nat) (x : Int) (h : i < r.length) : (intV r).take i ++ V.int x :: ((intV r).drop (i + 1) ++ []) = intV (r.set i x) := by
  rw [List.append_nil]
  unfold intV
  rw [List.map_set, List.set_eq_take_append_cons_drop, if_pos (by rw [List.length_map]; exact h)]
section
variable {P : Program} {w : World} {K : PySem.W.Frag} {mg : Str → Option Value} {base : Heap}
/-! ### given_fields -/
theorem sc_given_fields : FnScope ["told", "to", "word", "place", "registers"] ["told", "to", "word", "place"] (defScope (top 83)) := ⟨rfl, rfl, rfl, by decide +kernel, rfl, by decide +kernel, by decide +kernel⟩
abbrev sp_given_fields (K : PySem.W.Frag) : Sp := fun vs H Q _ => ∃ (t : Addr) (to : Nat) (word place : Int) (x0 x1 x2 x4 x5 x6 x7 x8 : V) (rg : Addr) (r : List Int), vs = [.ref t, .int (to : Int), .int word, .int place] ∧
  H t = some (.tup [x0, x1, x2, .ref rg, x4, x5, x6, x7, x8]) ∧ SqT K H rg (intV r) ∧ (0 < to ∧ to < r.length ∧ r.length ≤ 100) ∧
  ∀ p rg' H', Same H H' → H' rg' = some (.tup (intV (r.set to word))) → H' p = some (.tup [x0, x1, .int place, .ref rg', x4, x5, x6, x7, x8]) → Q (.ref p) H'
theorem ok_given_fields (T : Txt w K mg base) : C8.Cal P w K mg base 1 "given_fields" (sp_given_fields K) [] := by
  refine cal_of T.f_given_fields T.m_given_fields sc_given_fields (fun vs H Q E h => ?_) (fun _ _ _ _ _ _ us hl => match us, hl with | [_, _, _, _], _ => rfl) fun cdv A outer s H vs Q E hr h => ?_
  · obtain ⟨_, _, _, _, _, _, _, _, _, _, _, _, _, _, rfl, _⟩ := h; rfl
  obtain ⟨t, to, word, place, x0, x1, x2, x4, x5, x6, x7, x8, rg, r, rfl, q⟩ := h
  refine ⟨_, pss_cons (ps_set (i := 4) sc_given_fields.nd rfl (Or.inl rfl) (pe_ix ix_tup (pv 0) (pe_int) (fun _ _ => rfl)))
  (pss_cons (ps_if (pt_cmpR op_ne (pv 1) (pe_int) (nomark _))
    (pss_one (ps_set (i := 4) sc_given_fields.nd rfl (Or.inl rfl) (pe_tup (StX.pa_star (pe_slice sl_tupA (pv 4) po_none (po_some (pv 1))) (pa_cons (pv 2) (StX.pa_star (pe_slice sl_tupA (pv 4) (po_some (pe_op op_add (pv 1) (pe_int))) po_none) pa_nil))))))
    (pss_nil))
  (pss_one (ps_ret (pe_tup (StX.pa_star (pe_slice sl_tupA (pv 0) po_none (po_some (pe_int))) (pa_cons (pv 3) (pa_cons (pv 4) (StX.pa_star (pe_slice sl_tupA (pv 0) (po_some (pe_int)) po_none) pa_nil)))))))), ?_⟩
  obtain ⟨ht, hr0, hto, q⟩ := q
  walk_at "w"
  refine a_ixT (SqT.of ht) (at_of (j := 3) rfl rfl) ?_
  walk_at "w"
  refine d_nt (by omega) ?_
  walk_at "w"
  refine a_slP hr0 (fun h => absurd h.2 ?_) (a_new fun p1 H1 n1 S1 e1 => ?_)
  · rw [HT.sIx_nat, intV_len]; omega
  rw [cutT (by rw [intV_len]; omega)] at e1
  refine a_starT (SqT.of e1) ?_
  walk_at "w"
  refine a_slP (sqT_same S1 hr0) (fun h => absurd h.1 ?_) (a_new fun p2 H2 n2 S2 e2 => ?_)
  · show ¬ HT.sIx (intV r).length 0 (some ((to + 1 : Nat) : Int)) = 0
    rw [HT.sIx_nat, intV_len]; omega
  rw [show cutV (intV r) (some ((to : Int) + 1)) none = (intV r).drop (to + 1) from cutD (k := to + 1) (by rw [intV_len]; omega)] at e2
  refine a_starT (SqT.of e2) ?_
  walk_at "w"
  rw [intV_set _ _ _ hto.2.1]
  refine ⟨Nat.le_trans (by rw [intV_len, List.length_set]; exact hto.2.2) (by decide), a_new fun p3 H3 n3 S3 e3 => ?_⟩
  have S03 := (S1.trans S2).trans S3
  walk_at "w"
  refine a_slP (SqT.of (via S03 ht)) (fun h => absurd h.2 (show ¬ (2 = 9) by decide)) (a_new fun p4 H4 n4 S4 e4 => ?_)
  refine a_starT (SqT.of e4) ?_
  walk_at "w"
  refine a_slP (SqT.of (via S4 (via S03 ht))) (fun h => absurd h.1 (show ¬ (4 = 0) by decide)) (a_new fun p5 H5 n5 S5 e5 => ?_)
  refine a_starT (SqT.of e5) ?_
  walk_at "w"
  refine ⟨Nat.le_of_ble_eq_true rfl, a_new fun p6 H6 n6 S6 e6 => ?_⟩
  have S36 := (S4.trans S5).trans S6
  exact q p6 p3 H6 (S03.trans S36) (via S36 e3) e6
/-! ### ended_fields -/
theorem sc_ended_fields : FnScope ["told", "ended"] ["told", "ended"] (defScope (top 85)) := ⟨rfl, rfl, rfl, by decide +kernel, rfl, by decide +kernel, by decide +kernel⟩
abbrev sp_ended_fields (K : PySem.W.Frag) : Sp := fun vs H Q _ => ∃ (t : Addr) (x0 x1 x2 x3 x4 x5 x6 x7 x8 y : V), vs = [.ref t, y] ∧ H t = some (.tup [x0, x1, x2, x3, x4, x5, x6, x7, x8]) ∧
  ∀ p H', Same H H' → H' p = some (.tup [x0, x1, x2, x3, x4, x5, x6, y, x8]) → Q (.ref p) H'
theorem ok_ended_fields (T : Txt w K mg base) : C8.Cal P w K mg base 1 "ended_fields" (sp_ended_fields K) [] := by
  refine cal_of T.f_ended_fields T.m_ended_fields sc_ended_fields (fun vs H Q E h => ?_) (fun _ _ _ _ _ _ us hl => match us, hl with | [_, _], _ => rfl) fun cdv A outer s H vs Q E hr h => ?_
  · obtain ⟨_, _, _, _, _, _, _, _, _, _, _, rfl, _⟩ := h; rfl
  obtain ⟨t, x0, x1, x2, x3, x4, x5, x6, x7, x8, y, rfl, q⟩ := h
  refine ⟨_, pss_one (ps_ret (pe_tup (StX.pa_star (pe_slice sl_tupA (pv 0) po_none (po_some (pe_int))) (pa_cons (pv 1) (pa_cons (pe_ix ix_tup (pv 0) (pe_int) (fun _ _ => rfl)) pa_nil))))), ?_⟩
  obtain ⟨ht, q⟩ := q
  walk_at "w"
  refine a_slP (SqT.of ht) (fun h => absurd h.2 (show ¬ (7 = 9) by decide)) (a_new fun p4 H4 n4 S4 e4 => ?_)
  refine a_starT (SqT.of e4) ?_
  walk_at "w"
  refine a_ixT (SqT.of (via S4 ht)) (at_of (j := 8) rfl rfl) ?_
  walk_at "w"
  refine ⟨Nat.le_of_ble_eq_true rfl, a_new fun p6 H6 n6 S6 e6 => ?_⟩
  exact q p6 H6 (S4.trans S6) e6
/-! ### following -/
theorem sc_following : FnScope ["told"] ["told"] (defScope (top 87)) := ⟨rfl, rfl, rfl, by decide +kernel, rfl, by decide +kernel, by decide +kernel⟩
abbrev sp_following (K : PySem.W.Frag) : Sp := fun vs H Q _ => ∃ (t : Addr) (x0 : V) (m R : Nat) (pc : Int) (x1 : V) (rest : List V), vs = [.ref t] ∧ H t = some (.tup (x0 :: x1 :: .int pc :: rest)) ∧ IsSh K H x0 m R ∧ m ≤ 16 ∧ ∀ H', Same H H' → Q (.int ((pc + 1) % 2 ^ m)) H'
theorem ok_following (T : Txt w K mg base) : C8.Cal P w K mg base 1 "following" (sp_following K) [] := by
  refine cal_of T.f_following T.m_following sc_following (fun vs H Q E h => ?_) (fun _ _ _ _ _ _ us hl => match us, hl with | [_], _ => rfl) fun cdv A outer s H vs Q E hr h => ?_
  · obtain ⟨_, _, _, _, _, _, _, rfl, _⟩ := h; rfl
  obtain ⟨t, x0, m, R, pc, x1, rest, rfl, q⟩ := h
  refine ⟨_, pss_one (ps_ret (pe_op op_mask (pe_op op_add (pe_ix ix_tup (pv 0) (pe_int) (fun _ _ => rfl)) (pe_int)) (pe_op op_sub (pe_op op_oneS (pe_int) (SlX.pe_sl (pe_ix ix_tup (pv 0) (pe_int) (fun _ _ => rfl)))) (pe_int)))), ?_⟩
  obtain ⟨ht, ⟨a, dx, rfl, hs⟩, hm, q⟩ := q
  walk_at "w"
  refine a_ixT (SqT.of ht) (at_of (j := 2) rfl rfl) ?_
  walk_at "w"
  refine a_ixT (SqT.of ht) (at_of (j := 0) rfl rfl) ?_
  refine a_slot T.sc_Shape T.s_Shape_own_width hs rfl ?_
  walk_at "w"
  refine a_mask m rfl ?_
  exact q _ (Same.refl _)
/-! ### the machine's fields -/
/-- a machine at rest: width, registers, steps, memory, where they stand -/
structure Mc where
  m : Nat
  R : Nat
  ins : List Ins
  mem : List (Int × Int)
  sh : Addr
  pr : Addr
  me : Addr
  ou : Addr
def memK (l : List (Int × Int)) : List (Key × V) := l.map fun p => (.inl p.1, .int p.2)
def ldOf (l : List (Int × Int)) (k : Int) : Int := ((l.find? fun p => decide (p.1 = k)).map (·.2)).getD 0
theorem valV_memK : ∀ (l : List (Int × Int)) (k : Int), (valV (memK l) (.inl k)).getD (.int 0) = .int (ldOf l k)
  | [], k => rfl
  | p :: r, k => by
    by_cases e : p.1 = k
    · have h1 : valV (memK (p :: r)) (.inl k) = some (.int p.2) := valV_pos (congrArg Sum.inl e)
      rw [h1]
      unfold ldOf
      rw [List.find?_cons_of_pos (by simpa using e)]
      rfl
    · have h1 : valV (memK (p :: r)) (.inl k) = valV (memK r) (.inl k) := valV_neg (p := ((.inl p.1 : Key), V.int p.2)) fun z => e (Sum.inl.inj z)
      rw [h1, valV_memK r k]
      unfold ldOf
      rw [List.find?_cons_of_neg (by simpa using e)]
structure Mc.Fit (c : Mc) : Prop where
  m : 4 ≤ c.m ∧ c.m ≤ 16
  R : c.R = 2 ∨ c.R = 4 ∨ c.R = 8
  ins : ∀ i ∈ c.ins, i.fit c.R
  mem : ∀ p ∈ c.mem, Wd c.m p.1 ∧ Wd c.m p.2
structure McS (K : PySem.W.Frag) (H : Hp) (c : Mc) : Prop where
  sh : IsSh K H (.ref c.sh) c.m c.R
  pr : SqT K H c.pr ((c.ins.map enc).map V.int)
  me : H c.me = some (.dK (memK c.mem))
  ou : SqT K H c.ou []
theorem McS.same {H H' : Hp} {c : Mc} (S : Same H H') (h : McS K H c) : McS K H' c := ⟨h.sh.same S, sqT_same S h.pr, S _ _ h.me, sqT_same S h.ou⟩
/-- the state: the place, the registers, whether a division failed -/
structure Sx where
  pc : Nat
  regs : Rg
  bad : Bool
structure Sx.Ok (c : Mc) (s : Sx) : Prop where
  len : s.regs.length = c.R
  wd : ∀ x ∈ s.regs, Wd c.m x
  z : s.regs[0]? = some 0
def endV (K : PySem.W.Frag) (b : Bool) : V := if b then .ref (He.ga K "DIVIDE_FAULT") else .non
def IsT (K : PySem.W.Frag) (H : Hp) (c : Mc) (v : V) (s : Sx) : Prop := ∃ t rg, v = .ref t ∧ H t = some (.tup [.ref c.sh, .ref c.pr, .int (s.pc : Int), .ref rg, .ref c.me, .int 0, .bl false, endV K s.bad, .ref c.ou]) ∧ SqT K H rg (intV s.regs)
theorem IsT.same {H H' : Hp} {c : Mc} {v : V} {s : Sx} (S : Same H H') (h : IsT K H c v s) : IsT K H' c v s := by
  obtain ⟨t, rg, e, h1, h2⟩ := h
  exact ⟨t, rg, e, S _ _ h1, sqT_same S h2⟩
/-- what a step leaves: o the registers that it gives, if it gives any -/
def aft (m : Nat) (s : Sx) : Option Rg → Sx
  | some r => ⟨(s.pc + 1) % 2 ^ m, r, false⟩
  | none => ⟨s.pc, s.regs, true⟩
def stepS (c : Mc) (s : Sx) : Sx := match c.ins[s.pc]? with
  | some i => aft c.m s (exec c.m (ldOf c.mem) i s.regs)
  | none => s
theorem pc_cast (pc m : Nat) : ((pc : Int) + 1) % 2 ^ m = (((pc + 1) % 2 ^ m : Nat) : Int) := by rw [Int.natCast_emod, castpow]; rfl
theorem Sx.Ok.get {c : Mc} {s : Sx} (h : s.Ok c) {k : Nat} (hk : k < c.R) : s.regs[k]? = some (s.regs.getD k 0) := by
  rw [List.getD_eq_getElem?_getD, List.getElem?_eq_getElem (by rw [h.len]; exact hk)]; rfl
theorem at_int {r : List Int} {k : Nat} {x : Int} (h : r[k]? = some x) : (intV r)[k]? = some (.int x) := at_map h
/-! ### special_fields -/
theorem sc_special_fields : FnScope ["told", "to", "values", "kind", "one", "two", "width", "place"] ["told", "to", "values", "kind"] (defScope (top 86)) := ⟨rfl, rfl, rfl, by decide +kernel, rfl, by decide +kernel, by decide +kernel⟩
abbrev sp_special_fields (K : PySem.W.Frag) : Sp := fun vs H Q _ => ∃ (v : V) (c : Mc) (s : Sx) (g j : Nat) (vp : Addr) (a b : Int), vs = [v, .int (g : Int), .ref vp, .int (j : Int)] ∧ c.Fit ∧ McS K H c ∧ IsT K H c v s ∧ s.Ok c ∧ s.bad = false ∧ (0 < g ∧ g < c.R) ∧ (4 ≤ j ∧ j ≤ 6) ∧
  H vp = some (.tup [.int a, .int b]) ∧ Wd c.m a ∧ Wd c.m b ∧ ∀ v' H', Same H H' → IsT K H' c v' (aft c.m s ((val2 c.m (j + 4) a b).map fun x => s.regs.set g x)) → Q v' H'
theorem ok_special_fields (T : Txt w K mg base) : C8.Cal P w K mg base 3 "special_fields" (sp_special_fields K) [] := by
  refine cal_of T.f_special_fields T.m_special_fields sc_special_fields (fun vs H Q E h => ?_) (fun _ _ _ _ _ _ us hl => match us, hl with | [_, _, _, _], _ => rfl) fun cdv A outer s H vs Q E hr h => ?_
  · obtain ⟨_, _, _, _, _, _, _, _, rfl, _⟩ := h; rfl
  obtain ⟨v, c, s, g, j, vp, a, b, rfl, q⟩ := h
  refine ⟨_, pss_cons (ps_asg (pe_tup (pa_cons (pv 2) (pa_cons (SlX.pe_sl (pe_ix ix_tup (pv 0) (pe_int) (fun _ _ => rfl))) (pa_cons (C8.pe_c (ok_following T) hr (by omega) rfl (pa_cons (pv 0) pa_nil)) pa_nil)))) (pg_tup rfl (pgs_cons (pg_tup rfl (pgs_cons (pg_name (i := 4) sc_special_fields.nd rfl (Or.inl rfl)) (pgs_cons (pg_name (i := 5) sc_special_fields.nd rfl (Or.inl rfl)) pgs_nil))) (pgs_cons (pg_name (i := 6) sc_special_fields.nd rfl (Or.inl rfl)) (pgs_cons (pg_name (i := 7) sc_special_fields.nd rfl (Or.inl rfl)) pgs_nil)))))
  (pss_cons (ps_if (pt_cmpR op_gt (pv 3) (C8.pe_gc rfl T.c_REST_STEP) (nomark _))
    (pss_one (ps_ret (C8.pe_c (ok_ended_fields T) hr (by omega) rfl (pa_cons (pv 0) (pa_cons (C8.pe_gc rfl T.c_WORD_FAULT) pa_nil)))))
    (pss_nil))
  (pss_cons (ps_if (PW.pt (pw_and (pt_cmpR op_in_seq (pv 3) (pe_tup (pa_cons (C8.pe_gc rfl T.c_PART_STEP) (pa_cons (C8.pe_gc rfl T.c_REST_STEP) pa_nil))) rfl) (pw_and1 (pt_cmpR op_eq (pv 5) (pe_int) (nomark _)))))
    (pss_one (ps_ret (C8.pe_c (ok_ended_fields T) hr (by omega) rfl (pa_cons (pv 0) (pa_cons (C8.pe_gc rfl T.c_DIVIDE_FAULT) pa_nil)))))
    (pss_nil))
  (pss_cons (ps_if (pt_cmpR op_ge (pv 3) (C8.pe_gc rfl T.c_TIMES_STEP) (nomark _))
    (pss_one (ps_ret (C8.pe_c (ok_given_fields T) hr (by omega) rfl (pa_cons (pv 0) (pa_cons (pv 1) (pa_cons (C8.pe_c (ok_parted_words T) hr (by omega) rfl (pa_cons (pv 6) (pa_cons (pv 3) (pa_cons (pv 4) (pa_cons (pv 5) pa_nil))))) (pa_cons (pv 7) pa_nil)))))))
    (pss_nil))
  (pss_cons (ps_if (pt_cmpR op_eq (pv 3) (C8.pe_gc rfl T.c_END_STEP) (nomark _))
    (pss_one (ps_ret (C8.pe_c (ok_ended_fields T) hr (by omega) rfl (pa_cons (pv 0) (pa_cons (C8.pe_gc rfl T.c_END) pa_nil)))))
    (pss_nil))
  (pss_cons (ps_if (pt_cmpR op_eq (pv 3) (C8.pe_gc rfl T.c_PUT_STEP) (nomark _))
    (pss_one (ps_never))
    (pss_nil))
  (pss_cons (ps_if (pt_cmpR op_eq (pv 3) (C8.pe_gc rfl T.c_BACK_STEP) (nomark _))
    (pss_one (ps_never))
    (pss_nil))
  (pss_one (ps_never)))))))), ?_⟩
  obtain ⟨hc, hM, ⟨t, rg, rfl, ht, hrg⟩, hs, hbad, hg, hj, hvp, ha, hb, q⟩ := q
  have hlen := hs.len
  have hR8 : c.R ≤ 8 := by rcases hc.R with h | h | h <;> omega
  obtain ⟨sa, sdx, hse, hsl⟩ := hM.sh
  cases hse
  walk_at "w"
  refine a_ixT (SqT.of ht) (at_of (j := 0) rfl rfl) ?_
  refine a_slot T.sc_Shape T.s_Shape_own_width hsl rfl ?_
  walk_at "w"
  refine ⟨t, _, c.m, c.R, s.pc, _, _, rfl, ht, hM.sh, hc.m.2, fun H1 S1 => ?_⟩
  walk_at "w"
  walk_at "t"
  intro p2 H2 n2 S2 e2
  refine a_gtup (SqT.of e2) rfl ?_
  walk_at "w"
  refine a_gtup (SqT.of (via S2 (via S1 hvp))) rfl ?_
  walk_at "w"
  refine d_f (by omega) ?_
  walk_at "w"
  have S02 := S1.trans S2
  walk_at "t"
  intro p3 H3 n3 S3 e3
  have S03 := S02.trans S3
  refine a_inT (SqT.of e3) rfl rfl ?_
  rw [if_neg Bool.false_ne_true]
  walk_at "w"
  have hin : inV (.int (j : Int)) [.int 5, .int 6] = decide (j = 5 ∨ j = 6) := by
    show ((5 == (j : Int)) || ((6 == (j : Int)) || false)) = _
    by_cases h5 : j = 5
    · subst h5; rfl
    · by_cases h6 : j = 6
      · subst h6; rfl
      · obtain rfl : j = 4 := by omega
        rfl
  rw [hin]
  by_cases hz : (j = 5 ∨ j = 6) ∧ b = 0
  · refine d_t hz.1 ?_
    walk_at "w"
    refine d_t hz.2 ?_
    walk_at "w"
    refine ⟨t, _, _, _, _, _, _, _, _, _, _, rfl, via S03 ht, fun p4 H4 S4 e4 => ?_⟩
    have ev : val2 c.m (j + 4) a b = none := by
      unfold val2
      rw [if_neg (by omega), if_neg (by omega), if_pos hz.2]
    rw [ev] at q
    exact q _ _ (S03.trans S4) ⟨p4, rg, rfl, e4, sqT_same (S03.trans S4) hrg⟩
  · obtain ⟨x, hx⟩ : ∃ x, val2 c.m (j + 4) a b = some x := by
      unfold val2
      rw [if_neg (by omega)]
      by_cases h4 : j = 4
      · exact ⟨_, by rw [if_pos (by omega)]⟩
      · rw [if_neg (by omega), if_neg fun h => hz ⟨by omega, h⟩]
        split <;> exact ⟨_, rfl⟩
    rw [hx] at q
    have hwd := ha
    refine d_ite (fun h1 => ?ya) fun h1 => ?yb
    case' ya =>
      walk_at "w"
      refine d_f (fun h2 => hz ⟨h1, h2⟩) ?_
    all_goals
      walk_at "w"
      refine d_t (by omega) ?_
      walk_at "w"
      refine ⟨c.m, j, a, b, x, rfl, hc.m, hj, ha, hb, hx, fun H4 S4 => ?_⟩
      have S04 := S03.trans S4
      walk_at "w"
      refine ⟨t, g, _, _, _, _, _, _, _, _, _, _, rg, s.regs, rfl, via S04 ht, sqT_same S04 hrg, ⟨hg.1, by omega, by omega⟩, fun p5 rg' H5 S5 e5 e6 => ?_⟩
      refine q _ _ (S04.trans S5) ⟨p5, rg', rfl, ?_, SqT.of e5⟩
      rw [hbad] at e6
      rw [e6]
      show _ = some (HO.tup [_, _, .int (((s.pc + 1) % 2 ^ c.m : Nat) : Int), _, _, _, _, _, _])
      rw [← pc_cast]; rfl
/-! ### step_fields -/
theorem sc_step_fields : FnScope ["told", "shape", "program", "pc", "registers", "memory", "op", "first", "second", "third", "most", "to", "one", "two", "low", "other"] ["told"] (defScope (top 89)) := ⟨rfl, rfl, rfl, by decide +kernel, rfl, by decide +kernel, by decide +kernel⟩
abbrev sp_step_fields (K : PySem.W.Frag) : Sp := fun vs H Q _ => ∃ (v : V) (c : Mc) (s : Sx) (i : Ins), vs = [v] ∧ c.Fit ∧ McS K H c ∧ IsT K H c v s ∧ s.Ok c ∧ s.bad = false ∧ c.ins[s.pc]? = some i ∧ ∀ v' H', Same H H' → IsT K H' c v' (stepS c s) → Q v' H'
theorem sg_low {x : Int} (h : 0 ≤ x ∧ x ≤ 31) : sg 6 x = x := if_neg (by show ¬ 2 * x ≥ 64; omega)
theorem sg_nine {n : Int} (h : -256 ≤ n ∧ n ≤ 255) : sg 9 (n % 512) = n := by
  show (if 2 * (n % 512) ≥ 512 then n % 512 - 512 else n % 512) = n
  split <;> omega
theorem ok_step_fields (T : Txt w K mg base) : C8.Cal P w K mg base 4 "step_fields" (sp_step_fields K) [] := by
  refine cal_of T.f_step_fields T.m_step_fields sc_step_fields (fun vs H Q E h => ?_) (fun _ _ _ _ _ _ us hl => match us, hl with | [_], _ => rfl) fun cdv A outer s H vs Q E hr h => ?_
  · obtain ⟨_, _, _, _, rfl, _⟩ := h; rfl
  obtain ⟨v, c, s, i, rfl, q⟩ := h
  refine ⟨_, pss_cons (ps_asg (pe_slice sl_tupA (pv 0) po_none (po_some (pe_int))) (pg_tup rfl (pgs_cons (pg_name (i := 1) sc_step_fields.nd rfl (Or.inl rfl)) (pgs_cons (pg_name (i := 2) sc_step_fields.nd rfl (Or.inl rfl)) (pgs_cons (pg_name (i := 3) sc_step_fields.nd rfl (Or.inl rfl)) (pgs_cons (pg_name (i := 4) sc_step_fields.nd rfl (Or.inl rfl)) (pgs_cons (pg_name (i := 5) sc_step_fields.nd rfl (Or.inl rfl)) pgs_nil)))))))
  (pss_cons (ps_asg (C8.pe_c (ok_fields_in T) hr (by omega) rfl (pa_cons (C8.pe_c (ok_program_word T) hr (by omega) rfl (pa_cons (pv 2) (pa_cons (pv 3) pa_nil))) pa_nil)) (pg_tup rfl (pgs_cons (pg_name (i := 6) sc_step_fields.nd rfl (Or.inl rfl)) (pgs_cons (pg_name (i := 7) sc_step_fields.nd rfl (Or.inl rfl)) (pgs_cons (pg_name (i := 8) sc_step_fields.nd rfl (Or.inl rfl)) (pgs_cons (pg_name (i := 9) sc_step_fields.nd rfl (Or.inl rfl)) pgs_nil))))))
  (pss_cons (ps_par (i := 10) (j := 11) rfl sc_step_fields.nd rfl rfl (by decide) rfl rfl (pa_cons (pe_op op_sub (pe_op op_oneS (pe_int) (SlX.pe_sl (pv 1))) (pe_int)) (pa_cons (pe_op op_mod (pv 7) (SlX.pe_sl (pv 1))) pa_nil)) rfl)
  (pss_cons (ps_par (i := 12) (j := 13) rfl sc_step_fields.nd rfl rfl (by decide) rfl rfl (pa_cons (pe_ix ix_tup (pv 4) (pv 11) (fun _ _ => rfl)) (pa_cons (pe_ix ix_tup (pv 4) (pe_op op_mod (pv 8) (SlX.pe_sl (pv 1))) (fun _ _ => rfl)) pa_nil)) rfl)
  (pss_cons (ps_set (i := 14) sc_step_fields.nd rfl (Or.inl rfl) (C8.pe_c (ok_signed_field T) hr (by omega) rfl (pa_cons (pv 9) (pa_cons (C8.pe_gc rfl T.c_NEAR_BITS) pa_nil))))
  (pss_cons (ps_if (pt_cmpR op_lt (pv 6) (C8.pe_gc rfl T.c_OP_PLUS) (nomark _))
    (pss_cons (ps_set (i := 15) sc_step_fields.nd rfl (Or.inl rfl) (pe_ix ix_tup (pv 4) (pe_op op_mod (pe_op op_mod (pv 9) (pe_int)) (SlX.pe_sl (pv 1))) (fun _ _ => rfl)))
      (pss_one (ps_ret (C8.pe_c (ok_given_fields T) hr (by omega) rfl (pa_cons (pv 0) (pa_cons (pv 11) (pa_cons (C8.pe_c (ok_reckoned T) hr (by omega) rfl (pa_cons (SlX.pe_sl (pv 1)) (pa_cons (pv 6) (pa_cons (pv 13) (pa_cons (pv 15) pa_nil))))) (pa_cons (C8.pe_c (ok_following T) hr (by omega) rfl (pa_cons (pv 0) pa_nil)) pa_nil))))))))
    (pss_nil))
  (pss_cons (ps_if (pt_cmpR op_eq (pv 6) (C8.pe_gc rfl T.c_OP_PLUS) (nomark _))
    (pss_one (ps_ret (C8.pe_c (ok_given_fields T) hr (by omega) rfl (pa_cons (pv 0) (pa_cons (pv 11) (pa_cons (pe_op op_mask (pe_op op_add (pv 13) (pv 14)) (pv 10)) (pa_cons (C8.pe_c (ok_following T) hr (by omega) rfl (pa_cons (pv 0) pa_nil)) pa_nil)))))))
    (pss_nil))
  (pss_cons (ps_if (pt_cmpR op_eq (pv 6) (C8.pe_gc rfl T.c_OP_SET) (nomark _))
    (pss_one (ps_ret (C8.pe_c (ok_given_fields T) hr (by omega) rfl (pa_cons (pv 0) (pa_cons (pv 11) (pa_cons (pe_op op_mask (C8.pe_c (ok_signed_field T) hr (by omega) rfl (pa_cons (pe_op op_orLow (pe_op op_shlK (pv 8) (pe_int)) (pv 9)) (pa_cons (C8.pe_gc rfl T.c_TOLD_BITS) pa_nil))) (pv 10)) (pa_cons (C8.pe_c (ok_following T) hr (by omega) rfl (pa_cons (pv 0) pa_nil)) pa_nil)))))))
    (pss_nil))
  (pss_cons (ps_if (pt_cmpR op_eq (pv 6) (C8.pe_gc rfl T.c_OP_LOAD) (nomark _))
    (pss_one (ps_ret (C8.pe_c (ok_given_fields T) hr (by omega) rfl (pa_cons (pv 0) (pa_cons (pv 11) (pa_cons (pe_dget2 (hu_of hr) (pv 5) (pe_op op_mask (pe_op op_add (pv 13) (pv 14)) (pv 10)) (pe_int) ⟨rfl, rfl, rfl, rfl⟩) (pa_cons (C8.pe_c (ok_following T) hr (by omega) rfl (pa_cons (pv 0) pa_nil)) pa_nil)))))))
    (pss_nil))
  (pss_cons (ps_if (pt_cmpR op_eq (pv 6) (C8.pe_gc rfl T.c_OP_STORE) (nomark _))
    (pss_one (ps_never))
    (pss_nil))
  (pss_cons (ps_if (pt_cmpR op_eq (pv 6) (C8.pe_gc rfl T.c_OP_JUMP) (nomark _))
    (pss_one (ps_ret (C8.pe_c (ok_given_fields T) hr (by omega) rfl (pa_cons (pv 0) (pa_cons (pv 11) (pa_cons (C8.pe_c (ok_following T) hr (by omega) rfl (pa_cons (pv 0) pa_nil)) (pa_cons (pe_op op_mask (pe_op op_add (pv 13) (pv 14)) (pv 10)) pa_nil)))))))
    (pss_nil))
  (pss_cons (ps_if (pt_cmpR op_eq (pv 6) (C8.pe_gc rfl T.c_OP_SPECIAL) (nomark _))
    (pss_one (ps_ret (C8.pe_c (ok_special_fields T) hr (by omega) rfl (pa_cons (pv 0) (pa_cons (pv 11) (pa_cons (pe_tup (pa_cons (pv 12) (pa_cons (pv 13) pa_nil))) (pa_cons (pv 9) pa_nil)))))))
    (pss_nil))
  (pss_one (ps_never))))))))))))), ?_⟩
  obtain ⟨hc, hM, ⟨t, rg, rfl, ht, hrg⟩, hs, hbad, hi, q⟩ := q
  have hR8 : 2 ≤ c.R ∧ c.R ≤ 8 := by rcases hc.R with h | h | h <;> omega
  have hfit := hc.ins i (List.mem_of_getElem? hi)
  have hm := hc.m
  have hlen := hs.len
  have hst : stepS c s = aft c.m s (exec c.m (ldOf c.mem) i s.regs) := by unfold stepS; rw [hi]
  rw [hst] at q
  have hgoal : 0 < i.goal ∧ i.goal < c.R := by cases i <;> simp only [Ins.fit, Ins.goal] at hfit ⊢ <;> omega
  obtain ⟨sa, sdx, hse, hsl⟩ := hM.sh
  cases hse
  have hRpos : (0 : Int) < c.R := by omega
  have hfa : enc i / 512 % 8 = (i.goal : Int) := enc_goal hR8.2 hfit
  have w0 := Int.emod_nonneg (enc i) (show (64 : Int) ≠ 0 by decide)
  have w1 := Int.emod_lt_of_pos (enc i) (show (0 : Int) < 64 by decide)
  walk_at "w"
  refine a_slP (SqT.of ht) (fun h => absurd h.2 (show ¬ (5 = 9) by decide)) (a_new fun p1 H1 n1 S1 e1 => ?_)
  replace e1 : H1 p1 = some (.tup [.ref c.sh, .ref c.pr, .int (s.pc : Int), .ref rg, .ref c.me]) := e1
  refine a_gtup (SqT.of e1) rfl ?_
  walk_at "w"
  refine ⟨c.pr, s.pc, c.ins.map enc, enc i, rfl, sqT_same S1 hM.pr, by rw [List.getElem?_map, hi]; rfl, fun H2 S2 => ?_⟩
  walk_at "w"
  refine ⟨_, rfl, fun p3 H3 n3 S3 e3 => ?_⟩
  have S03 := (S1.trans S2).trans S3
  obtain ⟨o1, ho1⟩ : ∃ x, x = enc i / 4096 := ⟨_, rfl⟩
  obtain ⟨o3, ho3⟩ : ∃ x, x = enc i / 64 % 8 := ⟨_, rfl⟩
  obtain ⟨o4, ho4⟩ : ∃ x, x = enc i % 64 := ⟨_, rfl⟩
  obtain ⟨g, hg⟩ : ∃ x, x = i.goal := ⟨_, rfl⟩
  rw [← ho1, hfa, ← ho3, ← ho4, ← hg] at e3
  rw [← ho4] at w0 w1
  rw [← hg] at hgoal
  obtain ⟨b2, hb2, hb2R⟩ : ∃ b2 : Nat, o3 % (c.R : Int) = (b2 : Int) ∧ b2 < c.R := by
    have h1 := Int.emod_nonneg o3 (Int.ne_of_gt hRpos)
    have h2 := Int.emod_lt_of_pos o3 hRpos
    exact ⟨(o3 % (c.R : Int)).toNat, by omega, by omega⟩
  obtain ⟨va, hva⟩ : ∃ x, s.regs[g]? = some x := ⟨_, hs.get hgoal.2⟩
  obtain ⟨vb, hvb⟩ : ∃ x, s.regs[b2]? = some x := ⟨_, hs.get hb2R⟩
  obtain ⟨lw, hlw⟩ : ∃ x, x = sg 6 o4 := ⟨_, rfl⟩
  refine a_gtup (SqT.of e3) rfl ?_
  walk_at "w"
  refine a_slot T.sc_Shape T.s_Shape_own_width (slt_same S03 hsl) rfl ?_
  walk_at "w"
  refine a_slot T.sc_Shape T.s_Shape_own_registers (slt_same S03 hsl) rfl ?_
  refine a_rI hRpos ?_
  rw [show (g : Int) % (c.R : Int) = (g : Int) from Int.emod_eq_of_lt (by omega) (by omega)]
  walk_at "w"
  refine a_ixT (sqT_same S03 hrg) (at_of rfl (at_int hva)) ?_
  walk_at "w"
  refine a_slot T.sc_Shape T.s_Shape_own_registers (slt_same S03 hsl) rfl ?_
  refine a_rI hRpos ?_
  rw [hb2]
  refine a_ixT (sqT_same S03 hrg) (at_of rfl (at_int hvb)) ?_
  walk_at "w"
  refine ⟨o4, 6, rfl, by decide, ⟨w0, w1⟩, fun H4 S4 => ?_⟩
  rw [← hlw]
  have S04 := S03.trans S4
  have fin : ∀ (word : Int) (H5 : Hp) (p6 rg' : Addr), Same H H5 → exec c.m (ldOf c.mem) i s.regs = some (s.regs.set g word) → H5 rg' = some (.tup (intV (s.regs.set g word))) →
      H5 p6 = some (.tup [.ref c.sh, .ref c.pr, .int (((s.pc : Int) + 1) % 2 ^ c.m), .ref rg', .ref c.me, .int 0, .bl false, endV K s.bad, .ref c.ou]) → Q (.ref p6) H5 := by
    intro word H5 p6 rg' S5 ex5 d5 d6
    rw [ex5] at q
    refine q _ _ S5 ⟨p6, rg', rfl, ?_, SqT.of d5⟩
    rw [hbad, pc_cast] at d6
    exact d6
  walk_at "w"
  cases i with
  | put g' n =>
    obtain ⟨f1, f2, f3, f4⟩ := enc_put hR8.2 hfit
    obtain ⟨g1, g2, n1', n2'⟩ := hfit
    obtain rfl : g' = g := hg.symm
    obtain rfl : o1 = 9 := ho1.trans f1
    obtain rfl : o3 = n % 512 / 64 := ho3.trans f3
    obtain rfl : o4 = n % 512 % 64 := ho4.trans f4
    refine d_f (by decide) ?_
    walk_at "w"
    refine d_f (by decide) ?_
    walk_at "w"
    refine d_t rfl ?_
    walk_at "w"
    refine a_orLow (n % 512 / 64) 6 rfl ⟨by omega, by omega, by omega⟩ ?_
    walk_at "w"
    rw [show n % 512 / 64 * 2 ^ 6 + n % 512 % 64 = n % 512 by omega]
    refine ⟨n % 512, 9, rfl, by decide, ⟨by omega, by show n % 512 < 512; omega⟩, fun H5 S5 => ?_⟩
    rw [sg_nine ⟨n1', n2'⟩]
    walk_at "w"
    refine a_mask c.m rfl ?_
    walk_at "w"
    have S05 := S04.trans S5
    refine ⟨t, _, c.m, c.R, s.pc, _, _, rfl, via S05 ht, hM.sh.same S05, hc.m.2, fun H6 S6 => ?_⟩
    have S06 := S05.trans S6
    refine ⟨t, g', n % 2 ^ c.m, _, _, _, _, _, _, _, _, _, rg, s.regs, rfl, via S06 ht, sqT_same S06 hrg, ⟨g1, by omega, by omega⟩, fun p5 rg' H7 S7 e5 e6 => ?_⟩
    exact fin _ H7 p5 rg' (S06.trans S7) rfl e5 e6
  | load g' n =>
    obtain ⟨f1, f2, f3, f4⟩ := enc_load hR8.2 hfit
    obtain ⟨g1, g2, n1', n2'⟩ := hfit
    obtain rfl : g' = g := hg.symm
    obtain rfl : o1 = 10 := ho1.trans f1
    obtain rfl : o3 = 0 := ho3.trans f3
    obtain rfl : o4 = n := ho4.trans f4
    obtain rfl : lw = o4 := hlw.trans (sg_low ⟨n1', n2'⟩)
    obtain rfl : b2 = 0 := by rw [Int.zero_emod] at hb2; omega
    obtain rfl : vb = 0 := by rw [hs.z] at hvb; exact (Option.some.inj hvb).symm
    refine d_f (by decide) ?_
    walk_at "w"
    refine d_f (by decide) ?_
    walk_at "w"
    refine d_f (by decide) ?_
    walk_at "w"
    refine d_t rfl ?_
    walk_at "w"
    have hM4 := hM.same S04
    refine ⟨c.me, rfl, .inl ⟨_, Rd.of hM4.me⟩, ?_⟩
    walk_at "w"
    refine a_mask c.m rfl ?_
    walk_at "w"
    rw [Int.zero_add]
    refine ⟨_, DGet.k (k := .inl (lw % 2 ^ c.m)) hM4.me, ?_⟩
    rw [valV_memK]
    walk_at "w"
    refine ⟨t, _, c.m, c.R, s.pc, _, _, rfl, via S04 ht, hM4.sh, hc.m.2, fun H6 S6 => ?_⟩
    have S06 := S04.trans S6
    refine ⟨t, g', ldOf c.mem (lw % 2 ^ c.m), _, _, _, _, _, _, _, _, _, rg, s.regs, rfl, via S06 ht, sqT_same S06 hrg, ⟨g1, by omega, by omega⟩, fun p5 rg' H7 S7 e5 e6 => ?_⟩
    exact fin _ H7 p5 rg' (S06.trans S7) rfl e5 e6
  | op j g' o =>
    obtain rfl : g' = g := hg.symm
    have hwa : Wd c.m va := hs.wd _ (List.mem_of_getElem? hva)
    have hwb : Wd c.m vb := hs.wd _ (List.mem_of_getElem? hvb)
    by_cases hj : j < 8
    · obtain ⟨f1, f2, f3, f4⟩ := enc_plain hR8.2 hfit hj
      obtain ⟨j1, g1, g2, oo1, oo2⟩ := hfit
      obtain rfl : o1 = (j : Int) := ho1.trans f1
      obtain rfl : o3 = (g' : Int) := ho3.trans f3
      obtain rfl : o4 = (o : Int) := ho4.trans f4
      obtain rfl : b2 = g' := by rw [Int.emod_eq_of_lt (by omega) (by omega)] at hb2; omega
      obtain ⟨vo, hvo⟩ : ∃ x, s.regs[o]? = some x := ⟨_, hs.get oo2⟩
      have hwo : Wd c.m vo := hs.wd _ (List.mem_of_getElem? hvo)
      refine d_t (by omega) ?_
      walk_at "w"
      refine a_slot T.sc_Shape T.s_Shape_own_registers (slt_same S04 hsl) rfl ?_
      refine a_rI hRpos ?_
      rw [Int.emod_eq_of_lt (by omega) (show (o : Int) < 8 by omega), Int.emod_eq_of_lt (by omega) (by omega)]
      refine a_ixT (sqT_same S04 hrg) (at_of rfl (at_int hvo)) ?_
      walk_at "w"
      refine a_slot T.sc_Shape T.s_Shape_own_width (slt_same S04 hsl) rfl ?_
      walk_at "w"
      refine ⟨c.m, j, vb, vo, rfl, hm, hj, hwb, hwo, fun H5 S5 => ?_⟩
      have S05 := S04.trans S5
      walk_at "w"
      refine ⟨t, _, c.m, c.R, s.pc, _, _, rfl, via S05 ht, hM.sh.same S05, hc.m.2, fun H6 S6 => ?_⟩
      have S06 := S05.trans S6
      refine ⟨t, b2, rk c.m j vb vo, _, _, _, _, _, _, _, _, _, rg, s.regs, rfl, via S06 ht, sqT_same S06 hrg, ⟨g1, by omega, by omega⟩, fun p5 rg' H7 S7 e5 e6 => ?_⟩
      refine fin _ H7 p5 rg' (S06.trans S7) ?_ e5 e6
      show (val2 c.m j (s.regs.getD b2 0) (s.regs.getD o 0)).map (fun v => s.regs.set b2 v) = _
      unfold val2
      rw [if_pos hj, getD_of hvb, getD_of hvo]; rfl
    · obtain ⟨f1, f2, f3, f4⟩ := enc_long hR8.2 hfit hj
      obtain ⟨j1, g1, g2, oo1, oo2⟩ := hfit
      obtain rfl : o1 = 15 := ho1.trans f1
      obtain rfl : o3 = (o : Int) := ho3.trans f3
      obtain rfl : o4 = ((j - 4 : Nat) : Int) := (ho4.trans f4).trans (by omega)
      obtain rfl : b2 = o := by rw [Int.emod_eq_of_lt (by omega) (by omega)] at hb2; omega
      refine d_f (by decide) ?_
      walk_at "w"
      refine d_f (by decide) ?_
      walk_at "w"
      refine d_f (by decide) ?_
      walk_at "w"
      refine d_f (by decide) ?_
      walk_at "w"
      refine d_f (by decide) ?_
      walk_at "w"
      refine d_f (by decide) ?_
      walk_at "w"
      refine d_t rfl ?_
      walk_at "w"
      walk_at "t"
      intro vp H5 n5 S5 e5
      walk_at "w"
      have S05 := S04.trans S5
      refine ⟨.ref t, c, s, g', j - 4, vp, va, vb, rfl, hc, hM.same S05, ⟨t, rg, rfl, via S05 ht, sqT_same S05 hrg⟩, hs, hbad, ⟨g1, g2⟩, by omega, e5, hwa, hwb, fun v' H6 S6 hT => ?_⟩
      rw [show j - 4 + 4 = j by omega, ← getD_of hva, ← getD_of hvb] at hT
      exact q v' H6 (S05.trans S6) hT
end
end K83
end
section
set_option maxRecDepth 100000
set_option maxHeartbeats 4000000
namespace K83
open PySem PySem.Spec PyProof.Rows L2
local macro_rules | `(tactic| walk_at "s") => `(tactic| first
  | with_reducible refine a_seq ?_ | ((with_reducible refine a_varX ?_); refine ⟨_, rfl, ?_⟩) | with_reducible refine a_c ?_ | with_reducible refine a_op ?_ | with_reducible refine a_rI0 ?_ | with_reducible refine a_cons ?_ | with_reducible refine a_nil ?_
  | with_reducible refine a_next ?_ | with_reducible refine a_ret ?_ | with_reducible refine a_retN ?_ | with_reducible refine a_drop ?_ | with_reducible refine a_if ?_ | with_reducible refine a_asg ?_ | with_reducible refine a_un ?_
  | with_reducible refine a_rU ?_ | with_reducible refine a_eqI ?_ | with_reducible refine a_neI ?_ | with_reducible refine a_eqS ?_ | with_reducible refine a_neS ?_ | with_reducible refine a_test ?_ | with_reducible refine a_tB ?_ | with_reducible refine a_bl ?_ | with_reducible refine a_int ?_
  | with_reducible refine a_and ?_ | with_reducible refine a_or ?_ | with_reducible refine a_not ?_ | with_reducible refine a_andV ?_ | with_reducible refine a_orV ?_ | with_reducible refine a_notV ?_ | with_reducible refine a_ifE ?_ | with_reducible refine a_chain ?_ | with_reducible refine a_call ?_ | with_reducible refine a_cb ?_ | with_reducible refine a_star ?_
  | ((with_reducible refine a_nameX ?_); refine ⟨_, (by simp only [L2.wipe, L2.start, List.map_cons, List.map_nil, List.length_cons, List.length_nil, List.replicate_succ, List.replicate_zero, Nat.reduceSub, Nat.reduceAdd, Nat.zero_add, List.cons_append, List.nil_append, List.set_cons_zero, List.set_cons_succ]; exact rfl), ?_⟩) | with_reducible refine a_gcons ?_ | with_reducible refine a_gnil ?_ | with_reducible refine a_gsub ?_ | with_reducible refine a_par ?_ | ((with_reducible refine a_parX rfl ?_); refine ⟨_, (by simp only [L2.wipe, L2.start, List.map_cons, List.map_nil, List.length_cons, List.length_nil, List.replicate_succ, List.replicate_zero, Nat.reduceSub, Nat.reduceAdd, Nat.zero_add, List.cons_append, List.nil_append, List.set_cons_zero, List.set_cons_succ]; exact rfl), ?_⟩) | ((with_reducible refine a_augX ?_); refine ⟨_, rfl, ?_⟩) | with_reducible refine a_ipI ?_ | with_reducible refine a_tup ?_ | with_reducible refine a_lst ?_ | with_reducible refine a_sl ?_ | with_reducible refine a_sslX ?_
  | with_reducible refine a_tsl ?_ | with_reducible refine a_noPart ?_ | with_reducible refine a_part ?_ | with_reducible refine a_i1 ?_ | with_reducible refine a_i1b ?_ | with_reducible refine a_mx ?_ | with_reducible refine a_mn ?_ | with_reducible refine a_ab ?_ | with_reducible refine a_mat ?_ | with_reducible refine a_case ?_
  | ((with_reducible refine a_oneS ?_ ?_); omega) | ((with_reducible refine a_mask 1 ?_ ?_); decide) | ((with_reducible refine a_mask 3 ?_ ?_); decide) | ((with_reducible refine a_mask 6 ?_ ?_); decide) | ((with_reducible refine a_mask 9 ?_ ?_); decide) | ((with_reducible refine a_rI ?_ ?_); first | exact ⟨by decide, by decide⟩ | decide)
  | ((with_reducible refine a_shlK 12 ?_ ?_ ?_); rfl; exact shl_small (by omega) (by omega) (by decide)) | ((with_reducible refine a_shlK 9 ?_ ?_ ?_); rfl; exact shl_small (by omega) (by omega) (by decide)) | ((with_reducible refine a_shlK 6 ?_ ?_ ?_); rfl; exact shl_small (by omega) (by omega) (by decide)) | with_reducible refine a_kdGet ?_
  | with_reducible refine a_bm0 ?_ | with_reducible refine a_bm ?_ | with_reducible refine a_dnewT ?_ | with_reducible refine a_gsl ?_ | with_reducible refine a_mk ?_
  | with_reducible refine a_dget2 ?_ | with_reducible refine a_dnewK ?_ | with_reducible refine a_tli ?_ | with_reducible refine a_pair ?_ | with_reducible refine a_pair0 ?_
  | with_reducible refine a_lc ?_ | with_reducible refine a_itup ?_ | with_reducible refine a_ilst ?_ | with_reducible refine a_yes ?_ | with_reducible refine a_iitems ?_ | with_reducible refine a_dc ?_ | with_reducible refine a_isN0 ?_ | with_reducible refine a_notN0 ?_ | with_reducible refine a_izip ?_ | with_reducible refine a_dget ?_ | with_reducible refine a_propSl ?_ | with_reducible refine a_methSl ?_ | with_reducible refine a_for ?_ | with_reducible refine a_rng1 ?_ | with_reducible refine a_rng2 ?_
  | with_reducible refine iteT ?_ | with_reducible refine iteF ?_)
local macro_rules | `(tactic| walk_at "t") => `(tactic| refine ⟨Nat.le_of_ble_eq_true rfl, a_new ?_⟩)
local macro_rules | `(tactic| walk_at "w") => `(tactic| repeat walk_at "s")
local macro_rules | `(tactic| walk_at "t0") => `(tactic| refine ⟨Nat.le_of_ble_eq_true rfl, ?_⟩)
section
variable {P : Program} {w : World} {K : PySem.W.Frag} {mg : Str → Option Value} {base : Heap}
/-! ### is_program, require_program -/
theorem sc_is_program : FnScope ["value", "word"] ["value"] (defScope (top 39)) := ⟨rfl, rfl, rfl, by decide +kernel, rfl, by decide +kernel, by decide +kernel⟩
abbrev sp_is_program (K : PySem.W.Frag) : Sp := fun vs H Q _ => ∃ (a : Addr) (xs : List Int), vs = [.ref a] ∧ H a = some (.tup (intV xs)) ∧ (1 ≤ xs.length ∧ xs.length ≤ 256) ∧ (∀ x ∈ xs, 0 ≤ x ∧ x ≤ 65535) ∧ ∀ H', Same H H' → Q (.bl true) H'
theorem ok_is_program (T : Txt w K mg base) : C8.Cal P w K mg base 4 "is_program" (sp_is_program K) [] := by
  refine cal_of T.f_is_program T.m_is_program sc_is_program (fun vs H Q E h => ?_) (fun _ _ _ _ _ _ us hl => match us, hl with | [_], _ => rfl) fun cdv A outer s H vs Q E hr h => ?_
  · obtain ⟨_, _, rfl, _⟩ := h; rfl
  obtain ⟨a, xs, rfl, q⟩ := h
  refine ⟨_, pss_one (ps_ret (pe_and (pe_callB call_isi (by rfl) T.n_isinstance (by decide +kernel) (pa_cons (pv 0) (pa_cons (pe_bltn (v := .ty "tuple") (by rfl) T.n_tuple (by decide +kernel) rfl) pa_nil))) (pe_and (pe_chain op_le op_le (pe_int) (pe_callB call_lenS (by rfl) T.n_len (by decide +kernel) (pa_cons (pv 0) pa_nil)) (C8.pe_gc rfl T.c_MOST_WORDS)) (pe_one (pe_callB (cr_all rfl) (by rfl) T.n_all (by decide +kernel) (pa_cons (pe_lc rfl sc_is_program.nd (pi_tup (pv 0)) (blkOk_by (N := ["value", "word"]) (sc := defScope (top 39)) (own := [("word", 1)]) (by decide +kernel)) (fun _ _ _ _ _ => pg_name (i := 1) sc_is_program.nd rfl (Or.inl rfl)) (fun _ _ _ _ _ => pts_nil) (fun _ _ _ _ _ => C8.pe_c (ok_is_step_word T) hr (by omega) rfl (pa_cons (pv 1) pa_nil))) pa_nil)))))), ?_⟩
  obtain ⟨ha, hl, hx, q⟩ := q
  walk_at "w"
  refine a_isi (.ty _) (.base (.tup ha)) (kit_ty (r := true) (by decide +kernel)) ?_
  walk_at "w"
  refine a_lenT (SqT.of ha) ?_
  rw [intV_len]
  walk_at "w"
  refine d_t (by omega) ?_
  walk_at "w"
  rw [decide_eq_true (by omega)]
  walk_at "w"
  refine ⟨a, rfl, ⟨_, SqT.of ha⟩, ?_⟩
  refine lc_ofT (SqT.of ha) (by rw [intV_len]; omega) (fun _ => some (.bl true)) (fun i x H' R N hi S h1 h2 => ?_) fun D H' S n e => ?_
  · obtain ⟨y, hy, rfl⟩ : ∃ y, xs[i]? = some y ∧ x = .int y := by
      unfold intV at hi
      rw [List.getElem?_map] at hi
      cases h : xs[i]? with
      | none => rw [h] at hi; cases hi
      | some y => rw [h] at hi; exact ⟨y, rfl, (Option.some.inj hi).symm⟩
    walk_at "w"
    refine ⟨rfl, ?_⟩
    walk_at "w"
    refine ⟨y, rfl, fun H2 S2 => ?_⟩
    rw [decide_eq_true (hx y (List.mem_of_getElem? hy))]
    exact h1 _ _ rfl S2
  · walk_at "w"
    exact a_allT e (q _ S)
theorem sc_require_program : FnScope ["program"] ["program"] (defScope (top 44)) := ⟨rfl, rfl, rfl, by decide +kernel, rfl, by decide +kernel, by decide +kernel⟩
abbrev sp_require_program (K : PySem.W.Frag) : Sp := fun vs H Q _ => ∃ (a : Addr) (xs : List Int), vs = [.ref a] ∧ H a = some (.tup (intV xs)) ∧ (1 ≤ xs.length ∧ xs.length ≤ 256) ∧ (∀ x ∈ xs, 0 ≤ x ∧ x ≤ 65535) ∧ ∀ H', Same H H' → Q .non H'
theorem ok_require_program (T : Txt w K mg base) : C8.Cal P w K mg base 5 "require_program" (sp_require_program K) [] := by
  refine cal_of T.f_require_program T.m_require_program sc_require_program (fun vs H Q E h => ?_) (fun _ _ _ _ _ _ us hl => match us, hl with | [_], _ => rfl) fun cdv A outer s H vs Q E hr h => ?_
  · obtain ⟨_, _, rfl, _⟩ := h; rfl
  obtain ⟨a, xs, rfl, q⟩ := h
  refine ⟨_, pss_one (ps_if (pt_not (pt_val (C8.pe_c (ok_is_program T) hr (by omega) rfl (pa_cons (pv 0) pa_nil))))
    (pss_one (ps_never))
    (pss_nil)), ?_⟩
  obtain ⟨ha, hl, hx, q⟩ := q
  walk_at "w"
  refine ⟨a, xs, rfl, ha, hl, hx, fun H1 S1 => ?_⟩
  walk_at "w"
  refine iteF ?_
  walk_at "w"
  exact q _ S1
/-! ### are_words -/
theorem sc_are_words : FnScope ["width", "value", "word"] ["width", "value"] (defScope (top 41)) := ⟨rfl, rfl, rfl, by decide +kernel, rfl, by decide +kernel, by decide +kernel⟩
abbrev sp_are_words (K : PySem.W.Frag) : Sp := fun vs H Q _ => ∃ (m : Nat) (a : Addr) (xs : List Int) (t : Value), vs = [.int (m : Int), .ref a] ∧ SqT K H a (intV xs) ∧ TyX K H (.ref a) (.type "tuple") ∧ m ≤ 16 ∧ xs.length ≤ 256 ∧ (∀ x ∈ xs, Wd m x) ∧ ∀ H', Same H H' → Q (.bl true) H'
theorem ok_are_words (T : Txt w K mg base) : C8.Cal P w K mg base 4 "are_words" (sp_are_words K) [] := by
  refine cal_of T.f_are_words T.m_are_words sc_are_words (fun vs H Q E h => ?_) (fun _ _ _ _ _ _ us hl => match us, hl with | [_, _], _ => rfl) fun cdv A outer s H vs Q E hr h => ?_
  · obtain ⟨_, _, _, _, rfl, _⟩ := h; rfl
  obtain ⟨m, a, xs, t, rfl, q⟩ := h
  refine ⟨_, pss_one (ps_ret (pe_and (pe_callB call_isi (by rfl) T.n_isinstance (by decide +kernel) (pa_cons (pv 1) (pa_cons (pe_bltn (v := .ty "tuple") (by rfl) T.n_tuple (by decide +kernel) rfl) pa_nil))) (pe_one (pe_callB (cr_all rfl) (by rfl) T.n_all (by decide +kernel) (pa_cons (pe_lc rfl sc_are_words.nd (pi_tup (pv 1)) (blkOk_by (N := ["width", "value", "word"]) (sc := defScope (top 41)) (own := [("word", 2)]) (by decide +kernel)) (fun _ _ _ _ _ => pg_name (i := 2) sc_are_words.nd rfl (Or.inl rfl)) (fun _ _ _ _ _ => pts_nil) (fun _ _ _ _ _ => C8.pe_c (ok_is_within T) hr (by omega) rfl (pa_cons (pv 2) (pa_cons (pe_int) (pa_cons (pe_op op_sub (pe_op op_oneS (pe_int) (pv 0)) (pe_int)) pa_nil))))) pa_nil))))), ?_⟩
  obtain ⟨ha, hty, hm, hl, hx, q⟩ := q
  walk_at "w"
  refine a_isi (.ty _) hty (kit_ty (r := true) (by decide +kernel)) ?_
  walk_at "w"
  refine ⟨a, rfl, ⟨_, ha⟩, ?_⟩
  refine lc_ofT ha (by rw [intV_len]; omega) (fun _ => some (.bl true)) (fun i x H' R N hi S h1 h2 => ?_) fun D H' S n e => ?_
  · obtain ⟨y, hy, rfl⟩ : ∃ y, xs[i]? = some y ∧ x = .int y := by
      unfold intV at hi
      rw [List.getElem?_map] at hi
      cases h : xs[i]? with
      | none => rw [h] at hi; cases hi
      | some y => rw [h] at hi; exact ⟨y, rfl, (Option.some.inj hi).symm⟩
    walk_at "w"
    refine ⟨rfl, ?_⟩
    walk_at "w"
    refine ⟨y, 0, 2 ^ m - 1, rfl, fun H2 S2 => ?_⟩
    rw [decide_eq_true (by have := hx y (List.mem_of_getElem? hy); unfold Wd at this; omega)]
    exact h1 _ _ rfl S2
  · walk_at "w"
    exact a_allT e (q _ S)
/-! ### is_memory_of, require_memory -/
theorem sc_is_memory_of : FnScope ["width", "value", "most", "at", "word"] ["width", "value"] (defScope (top 40)) := ⟨rfl, rfl, rfl, by decide +kernel, rfl, by decide +kernel, by decide +kernel⟩
abbrev sp_is_memory_of (K : PySem.W.Frag) : Sp := fun vs H Q _ => ∃ (m : Nat) (d : Addr) (mem : List (Int × Int)), vs = [.int (m : Int), .ref d] ∧ H d = some (.dK (memK mem)) ∧ m ≤ 16 ∧ mem.length ≤ 1000 ∧ (∀ p ∈ mem, Wd m p.1 ∧ Wd m p.2 ∧ p.2 ≠ 0) ∧ ∀ H', Same H H' → Q (.bl true) H'
theorem ok_is_memory_of (T : Txt w K mg base) : C8.Cal P w K mg base 4 "is_memory_of" (sp_is_memory_of K) [] := by
  refine cal_of T.f_is_memory_of T.m_is_memory_of sc_is_memory_of (fun vs H Q E h => ?_) (fun _ _ _ _ _ _ us hl => match us, hl with | [_, _], _ => rfl) fun cdv A outer s H vs Q E hr h => ?_
  · obtain ⟨_, _, _, rfl, _⟩ := h; rfl
  obtain ⟨m, d, mem, rfl, q⟩ := h
  refine ⟨_, pss_cons (ps_if (PW.pt (pw_or (pt_not (pt_val (pe_callB call_isi (by rfl) T.n_isinstance (by decide +kernel) (pa_cons (pv 1) (pa_cons (pe_bltn (v := .ty "dict") (by rfl) T.n_dict (by decide +kernel) rfl) pa_nil))))) (pw_or1 (pt_cmpR op_gt (pe_callB call_lenD0 (by rfl) T.n_len (by decide +kernel) (pa_cons (pv 1) pa_nil)) (C8.pe_gc rfl T.c_MOST_PLACES) (nomark _)))))
    (pss_one (ps_ret (pe_bl)))
    (pss_nil))
  (pss_cons (ps_set (i := 2) sc_is_memory_of.nd rfl (Or.inr rfl) (pe_op op_sub (pe_op op_oneS (pe_int) (pv 0)) (pe_int)))
  (pss_one (ps_ret (pe_callB (cr_all rfl) (by rfl) T.n_all (by decide +kernel) (pa_cons (pe_lock (pe_lc rfl sc_is_memory_of.nd (pi_items (pv 1)) (blkOk_by (N := ["width", "value", "most", "at", "word"]) (sc := defScope (top 40)) (own := [("at", 3), ("word", 4)]) (by decide +kernel)) (fun _ _ _ _ _ => pg_tupK (K := K) (m := 2) rfl rfl (pgs_cons (pg_name (i := 3) sc_is_memory_of.nd rfl (Or.inl rfl)) (pgs_cons (pg_name (i := 4) sc_is_memory_of.nd rfl (Or.inl rfl)) pgs_nil))) (fun _ _ _ _ _ => pts_nil) (fun _ _ _ _ _ => pe_and (C8.pe_c (ok_is_within T) hr (by omega) rfl (pa_cons (pv 3) (pa_cons (pe_int) (pa_cons (pv 2) pa_nil)))) (pe_one (C8.pe_c (ok_is_within T) hr (by omega) rfl (pa_cons (pv 4) (pa_cons (pe_int) (pa_cons (pv 2) pa_nil)))))))) pa_nil))))), ?_⟩
  obtain ⟨hd, hm, hl, hx, q⟩ := q
  have hlen : (memK mem).length = mem.length := List.length_map ..
  walk_at "w"
  refine a_isi (.ty _) (.base (.dK hd)) (kit_ty (r := true) (by decide +kernel)) ?_
  walk_at "w"
  refine iteF ?_
  walk_at "w"
  refine a_lenD hd ?_
  rw [hlen]
  walk_at "w"
  refine d_f (by omega) ?_
  walk_at "w"
  refine a_lockE hd trivial fun od => ?_
  walk_at "w"
  refine ⟨d, od, memK mem, rfl, upd_same, ?_⟩
  refine lc_any (n := mem.length) (fun _ => some (.bl true)) (by omega) (fun i H' hi S => ⟨S _ _ upd_same, by rw [hlen]; exact hi⟩) (fun H' S => ⟨S _ _ upd_same, by rw [hlen]; exact Nat.le_refl _⟩) (fun i x H' H'' R N hi S hy h1 h2 => ?_) fun D H' S n e => ?_
  · obtain ⟨t, k, v, hk, rfl, nt, rfl⟩ := hy
    obtain ⟨p, hp, rfl, rfl⟩ : ∃ p, mem[i]? = some p ∧ k = .inl p.1 ∧ v = .int p.2 := by
      unfold memK at hk
      rw [List.getElem?_map] at hk
      cases h : mem[i]? with
      | none => rw [h] at hk; cases hk
      | some p => rw [h] at hk; cases hk; exact ⟨p, rfl, rfl, rfl⟩
    obtain ⟨x1, x2, x3⟩ := hx p (List.mem_of_getElem? hp)
    unfold Wd at x1 x2
    refine a_gtup (SqT.of upd_same) rfl ?_
    have St := same_new (o := .tup [kV (.inl p.1), .int p.2]) nt
    generalize upd H' t (.tup [kV (.inl p.1), .int p.2]) = H1 at *
    walk_at "w"

    refine ⟨rfl, ?_⟩
    walk_at "w"
    refine ⟨p.1, 0, 2 ^ m - 1, rfl, fun H2 S2 => ?_⟩
    rw [decide_eq_true (by omega)]
    walk_at "w"
    refine ⟨p.2, 1, 2 ^ m - 1, rfl, fun H3 S3 => ?_⟩
    rw [decide_eq_true (by omega)]
    exact h1 _ _ rfl ((St.trans S2).trans S3)
  · refine ⟨S _ _ upd_same, ?_⟩
    walk_at "w"
    have hne : D ≠ d := fun z => by
      rw [z, S _ _ upd_same] at e
      cases e
    exact a_allT (by rw [upd_ne hne]; exact e) (q _ (unlock_same hd S))
theorem sc_require_memory : FnScope ["shape", "memory"] ["shape", "memory"] (defScope (top 45)) := ⟨rfl, rfl, rfl, by decide +kernel, rfl, by decide +kernel, by decide +kernel⟩
abbrev sp_require_memory (K : PySem.W.Frag) : Sp := fun vs H Q _ => ∃ (v : V) (m R : Nat) (d : Addr) (mem : List (Int × Int)), vs = [v, .ref d] ∧ IsSh K H v m R ∧ H d = some (.dK (memK mem)) ∧ m ≤ 16 ∧ mem.length ≤ 1000 ∧ (∀ p ∈ mem, Wd m p.1 ∧ Wd m p.2 ∧ p.2 ≠ 0) ∧ ∀ H', Same H H' → Q .non H'
theorem ok_require_memory (T : Txt w K mg base) : C8.Cal P w K mg base 5 "require_memory" (sp_require_memory K) [] := by
  refine cal_of T.f_require_memory T.m_require_memory sc_require_memory (fun vs H Q E h => ?_) (fun _ _ _ _ _ _ us hl => match us, hl with | [_, _], _ => rfl) fun cdv A outer s H vs Q E hr h => ?_
  · obtain ⟨_, _, _, _, _, rfl, _⟩ := h; rfl
  obtain ⟨v, m, R, d, mem, rfl, q⟩ := h
  refine ⟨_, pss_one (ps_if (pt_not (pt_val (C8.pe_c (ok_is_memory_of T) hr (by omega) rfl (pa_cons (SlX.pe_sl (pv 0)) (pa_cons (pv 1) pa_nil)))))
    (pss_one (ps_never))
    (pss_nil)), ?_⟩
  obtain ⟨⟨a, dx, rfl, hs⟩, hd, hm, hl, hx, q⟩ := q
  walk_at "w"
  refine a_slot T.sc_Shape T.s_Shape_own_width hs rfl ?_
  walk_at "w"
  refine ⟨m, d, mem, rfl, hd, hm, hl, hx, fun H1 S1 => ?_⟩
  walk_at "w"
  refine iteF ?_
  walk_at "w"
  exact q _ S1
end
end K83
end
section
set_option maxRecDepth 100000
set_option maxHeartbeats 4000000
namespace K83
open PySem PySem.Spec PyProof.Rows L2
local macro_rules | `(tactic| walk_at "s") => `(tactic| first
  | with_reducible refine a_seq ?_ | ((with_reducible refine a_varX ?_); refine ⟨_, rfl, ?_⟩) | with_reducible refine a_c ?_ | with_reducible refine a_op ?_ | with_reducible refine a_rI0 ?_ | with_reducible refine a_cons ?_ | with_reducible refine a_nil ?_
  | with_reducible refine a_next ?_ | with_reducible refine a_ret ?_ | with_reducible refine a_retN ?_ | with_reducible refine a_drop ?_ | with_reducible refine a_if ?_ | with_reducible refine a_asg ?_ | with_reducible refine a_un ?_
  | with_reducible refine a_rU ?_ | with_reducible refine a_eqI ?_ | with_reducible refine a_neI ?_ | with_reducible refine a_eqS ?_ | with_reducible refine a_neS ?_ | with_reducible refine a_test ?_ | with_reducible refine a_tB ?_ | with_reducible refine a_bl ?_ | with_reducible refine a_int ?_
  | with_reducible refine a_and ?_ | with_reducible refine a_or ?_ | with_reducible refine a_not ?_ | with_reducible refine a_andV ?_ | with_reducible refine a_orV ?_ | with_reducible refine a_notV ?_ | with_reducible refine a_ifE ?_ | with_reducible refine a_chain ?_ | with_reducible refine a_call ?_ | with_reducible refine a_cb ?_ | with_reducible refine a_star ?_
  | ((with_reducible refine a_nameX ?_); refine ⟨_, (by simp only [L2.wipe, L2.start, List.map_cons, List.map_nil, List.length_cons, List.length_nil, List.replicate_succ, List.replicate_zero, Nat.reduceSub, Nat.reduceAdd, Nat.zero_add, List.cons_append, List.nil_append, List.set_cons_zero, List.set_cons_succ]; exact rfl), ?_⟩) | with_reducible refine a_gcons ?_ | with_reducible refine a_gnil ?_ | with_reducible refine a_gsub ?_ | with_reducible refine a_par ?_ | ((with_reducible refine a_parX rfl ?_); refine ⟨_, (by simp only [L2.wipe, L2.start, List.map_cons, List.map_nil, List.length_cons, List.length_nil, List.replicate_succ, List.replicate_zero, Nat.reduceSub, Nat.reduceAdd, Nat.zero_add, List.cons_append, List.nil_append, List.set_cons_zero, List.set_cons_succ]; exact rfl), ?_⟩) | ((with_reducible refine a_augX ?_); refine ⟨_, rfl, ?_⟩) | with_reducible refine a_ipI ?_ | with_reducible refine a_tup ?_ | with_reducible refine a_lst ?_ | with_reducible refine a_sl ?_ | with_reducible refine a_sslX ?_
  | with_reducible refine a_tsl ?_ | with_reducible refine a_noPart ?_ | with_reducible refine a_part ?_ | with_reducible refine a_i1 ?_ | with_reducible refine a_i1b ?_ | with_reducible refine a_mx ?_ | with_reducible refine a_mn ?_ | with_reducible refine a_ab ?_ | with_reducible refine a_mat ?_ | with_reducible refine a_case ?_
  | ((with_reducible refine a_oneS ?_ ?_); omega) | ((with_reducible refine a_mask 1 ?_ ?_); decide) | ((with_reducible refine a_mask 3 ?_ ?_); decide) | ((with_reducible refine a_mask 6 ?_ ?_); decide) | ((with_reducible refine a_mask 9 ?_ ?_); decide) | ((with_reducible refine a_rI ?_ ?_); first | exact ⟨by decide, by decide⟩ | decide)
  | ((with_reducible refine a_shlK 12 ?_ ?_ ?_); rfl; exact shl_small (by omega) (by omega) (by decide)) | ((with_reducible refine a_shlK 9 ?_ ?_ ?_); rfl; exact shl_small (by omega) (by omega) (by decide)) | ((with_reducible refine a_shlK 6 ?_ ?_ ?_); rfl; exact shl_small (by omega) (by omega) (by decide)) | with_reducible refine a_kdGet ?_
  | with_reducible refine a_bm0 ?_ | with_reducible refine a_bm ?_ | with_reducible refine a_dnewT ?_ | with_reducible refine a_gsl ?_ | with_reducible refine a_mk ?_
  | with_reducible refine a_dget2 ?_ | with_reducible refine a_dnewK ?_ | with_reducible refine a_tli ?_ | with_reducible refine a_pair ?_ | with_reducible refine a_pair0 ?_
  | with_reducible refine a_lc ?_ | with_reducible refine a_itup ?_ | with_reducible refine a_ilst ?_ | with_reducible refine a_yes ?_ | with_reducible refine a_iitems ?_ | with_reducible refine a_dc ?_ | with_reducible refine a_isN0 ?_ | with_reducible refine a_notN0 ?_ | with_reducible refine a_izip ?_ | with_reducible refine a_dget ?_ | with_reducible refine a_propSl ?_ | with_reducible refine a_methSl ?_ | with_reducible refine a_for ?_ | with_reducible refine a_rng1 ?_ | with_reducible refine a_rng2 ?_
  | with_reducible refine iteT ?_ | with_reducible refine iteF ?_)
local macro_rules | `(tactic| walk_at "t") => `(tactic| refine ⟨Nat.le_of_ble_eq_true rfl, a_new ?_⟩)
local macro_rules | `(tactic| walk_at "w") => `(tactic| repeat walk_at "s")
local macro_rules | `(tactic| walk_at "t0") => `(tactic| refine ⟨Nat.le_of_ble_eq_true rfl, ?_⟩)
section
variable {P : Program} {w : World} {K : PySem.W.Frag} {mg : Str → Option Value} {base : Heap}
/-! ### is_end, are_bells, require_steps: at none, at nothing -/
theorem sc_is_end : FnScope ["value", "word"] ["value"] (defScope (top 93)) := ⟨rfl, rfl, rfl, by decide +kernel, rfl, by decide +kernel, by decide +kernel⟩
abbrev sp_is_end : Sp := fun vs H Q _ => vs = [.non] ∧ ∀ H', Same H H' → Q (.bl true) H'
theorem ok_is_end (T : Txt w K mg base) : C8.Cal P w K mg base 1 "is_end" sp_is_end [] := by
  refine cal_of T.f_is_end T.m_is_end sc_is_end (fun vs H Q E h => ?_) (fun _ _ _ _ _ _ us hl => match us, hl with | [_], _ => rfl) fun cdv A outer s H vs Q E hr h => ?_
  · obtain ⟨rfl, _⟩ := h; rfl
  obtain ⟨rfl, q⟩ := h
  refine ⟨_, pss_cons (ps_if (pt_cmpR op_isN0 (pv 0) (pe_non) (nomark _))
    (pss_one (ps_ret (pe_bl)))
    (pss_nil))
  (pss_cons (ps_never)
  (pss_one (ps_never))), ?_⟩
  walk_at "w"
  refine d_t rfl ?_
  walk_at "w"
  exact q _ (Same.refl _)
theorem sc_are_bells : FnScope ["value", "number", "one", "other"] ["value"] (defScope (top 94)) := ⟨rfl, rfl, rfl, by decide +kernel, rfl, by decide +kernel, by decide +kernel⟩
abbrev sp_are_bells (K : PySem.W.Frag) : Sp := fun vs H Q _ => ∃ a : Addr, vs = [.ref a] ∧ SqT K H a [] ∧ ∀ H', Same H H' → Q (.bl true) H'
theorem ok_are_bells (T : Txt w K mg base) : C8.Cal P w K mg base 1 "are_bells" (sp_are_bells K) [] := by
  refine cal_of T.f_are_bells T.m_are_bells sc_are_bells (fun vs H Q E h => ?_) (fun _ _ _ _ _ _ us hl => match us, hl with | [_], _ => rfl) fun cdv A outer s H vs Q E hr h => ?_
  · obtain ⟨_, rfl, _⟩ := h; rfl
  obtain ⟨a, rfl, q⟩ := h
  refine ⟨_, pss_cons (ps_if (PW.pt (pw_or (pt_not (pt_val (pe_callB call_isi (by rfl) T.n_isinstance (by decide +kernel) (pa_cons (pv 0) (pa_cons (pe_bltn (v := .ty "tuple") (by rfl) T.n_tuple (by decide +kernel) rfl) pa_nil))))) (pw_or1 (pt_not (pt_val (pe_callB (cr_all rfl) (by rfl) T.n_all (by decide +kernel) (pa_cons (pe_lc rfl sc_are_bells.nd (pi_tup (pv 0)) (blkOk_by (N := ["value", "number", "one", "other"]) (sc := defScope (top 94)) (own := [("number", 1)]) (by decide +kernel)) (fun _ _ _ _ _ => pg_name (i := 1) sc_are_bells.nd rfl (Or.inl rfl)) (fun _ _ _ _ _ => pts_nil) (fun _ _ _ _ _ => pe_no)) pa_nil)))))))
    (pss_one (ps_ret (pe_bl)))
    (pss_nil))
  (pss_one (ps_ret (pe_callB (cr_all rfl) (by rfl) T.n_all (by decide +kernel) (pa_cons (pe_lc rfl sc_are_bells.nd (RZ.pi_zipA (by rfl) T.n_zip (pa_cons (pv 0) (pa_cons (pe_slice sl_tupA (pv 0) (po_some (pe_int)) po_none) pa_nil))) (blkOk_by (N := ["value", "number", "one", "other"]) (sc := defScope (top 94)) (own := [("one", 2), ("other", 3)]) (by decide +kernel)) (fun _ _ _ _ _ => pg_tupK (K := K) (m := 2) rfl rfl (pgs_cons (pg_name (i := 2) sc_are_bells.nd rfl (Or.inl rfl)) (pgs_cons (pg_name (i := 3) sc_are_bells.nd rfl (Or.inl rfl)) pgs_nil))) (fun _ _ _ _ _ => pts_nil) (fun _ _ _ _ _ => pe_cmpR op_lt (pv 2) (pv 3) (nomark _))) pa_nil)))), ?_⟩
  obtain ⟨ha, q⟩ := q
  walk_at "w"
  refine a_isi (.ty _) (tyT ha) (kit_ty (r := true) (by decide +kernel)) ?_
  walk_at "w"
  refine iteF ?_
  walk_at "w"
  refine ⟨a, rfl, ⟨_, ha⟩, ?_⟩
  refine lc_ofT ha (Nat.zero_le _) (fun _ => some (.bl true)) (fun i x H' R N hi S h1 h2 => by cases hi) fun D H1 S n e => ?_
  walk_at "w"
  refine a_allT e ?_
  walk_at "w"
  refine iteF ?_
  have ha1 := sqT_same S ha
  walk_at "w"
  refine a_slA ha1 (fun _ => ?_) fun h => absurd (show HT.sIx 0 0 (some 1) = 0 ∧ HT.sIx 0 0 none = 0 by decide) h
  walk_at "w"
  refine ⟨a, a, [], [], rfl, .inr ⟨ha1, ha1, ?_⟩⟩
  refine lc_any (J := RZ.ItzT K a a) (n := 0) (fun _ => some (.bl true)) (Nat.zero_le _) (fun i H' h _ => absurd h (Nat.not_lt_zero _)) (fun H' S' => ⟨[], [], sqT_same S' ha1, sqT_same S' ha1, .inl (Nat.le_refl _)⟩) (fun i x H' H'' R N h => absurd h (Nat.not_lt_zero _)) fun D' H2 S2 n2 e2 => ?_
  walk_at "w"
  exact a_allT e2 (q _ (S.trans S2))
theorem sc_require_steps : FnScope ["steps", "bells"] ["steps", "bells"] (defScope (top 100)) := ⟨rfl, rfl, rfl, by decide +kernel, rfl, by decide +kernel, by decide +kernel⟩
abbrev sp_require_steps (K : PySem.W.Frag) : Sp := fun vs H Q _ => ∃ (k : Nat) (a : Addr), vs = [.int (k : Int), .ref a] ∧ SqT K H a [] ∧ k ≤ 3000 ∧ ∀ H', Same H H' → Q .non H'
theorem ok_require_steps (T : Txt w K mg base) : C8.Cal P w K mg base 3 "require_steps" (sp_require_steps K) [] := by
  refine cal_of T.f_require_steps T.m_require_steps sc_require_steps (fun vs H Q E h => ?_) (fun _ _ _ _ _ _ us hl => match us, hl with | [_, _], _ => rfl) fun cdv A outer s H vs Q E hr h => ?_
  · obtain ⟨_, _, rfl, _⟩ := h; rfl
  obtain ⟨k, a, rfl, q⟩ := h
  refine ⟨_, pss_cons (ps_if (pt_not (pt_val (C8.pe_c (ok_is_within T) hr (by omega) rfl (pa_cons (pv 0) (pa_cons (pe_int) (pa_cons (C8.pe_gc rfl T.c_MOST_STEPS) pa_nil))))))
    (pss_one (ps_never))
    (pss_nil))
  (pss_one (ps_if (pt_not (pt_val (C8.pe_c (ok_are_bells T) hr (by omega) rfl (pa_cons (pv 1) pa_nil))))
    (pss_one (ps_never))
    (pss_nil))), ?_⟩
  obtain ⟨ha, hk, q⟩ := q
  walk_at "w"
  refine ⟨_, _, _, rfl, fun H1 S1 => ?_⟩
  rw [decide_eq_true (by omega)]
  walk_at "w"
  refine iteF ?_
  walk_at "w"
  refine ⟨a, rfl, sqT_same S1 ha, fun H2 S2 => ?_⟩
  walk_at "w"
  refine iteF ?_
  walk_at "w"
  exact q _ (S1.trans S2)
/-! ### checked_fields -/
theorem sc_checked_fields : FnScope ["shape", "program", "told", "pc", "registers", "memory", "saved", "allowed", "ended", "outputs", "width", "row", "some", "at"] ["shape", "program", "told"] (defScope (top 92)) := ⟨rfl, rfl, rfl, by decide +kernel, rfl, by decide +kernel, by decide +kernel⟩
/-- a memory in order, its words fit -/
def MemOk (m : Nat) (mem : List (Int × Int)) : Prop := mem.Pairwise (fun p q => p.1 < q.1) ∧ mem.length ≤ 60 ∧ ∀ p ∈ mem, Wd m p.1 ∧ Wd m p.2 ∧ p.2 ≠ 0
theorem MemOk.keys {m : Nat} {mem : List (Int × Int)} (h : MemOk m mem) : (mem.map (·.1)).Pairwise (· < ·) := by
  rw [List.pairwise_map]; exact h.1
theorem MemOk.nd {m : Nat} {mem : List (Int × Int)} (h : MemOk m mem) : (mem.map (·.1)).Nodup := h.keys.imp fun {a b} h => Int.ne_of_lt h
theorem mem_find {m : Nat} {mem : List (Int × Int)} (h : MemOk m mem) : (mem.map (·.1)).map (fun k => ((.inl k : Key), V.int (ldOf mem k))) = memK mem := by
  unfold memK
  rw [List.map_map]
  refine List.map_congr_left fun p hp => ?_
  show ((.inl p.1 : Key), V.int (ldOf mem p.1)) = (.inl p.1, .int p.2)
  have e : mem.find? (fun q => decide (q.1 = p.1)) = some p := by
    have nd := h.nd
    clear h
    induction mem with
    | nil => cases hp
    | cons a r ih =>
      rw [List.map_cons] at nd
      obtain ⟨n1, n2⟩ := List.nodup_cons.mp nd
      rcases List.mem_cons.mp hp with rfl | hp
      · exact List.find?_cons_of_pos (by simp)
      · rw [List.find?_cons_of_neg]
        · exact ih hp n2
        · simp only [decide_eq_true_eq]
          intro e
          exact n1 (by rw [e]; exact List.mem_map_of_mem hp)
  unfold ldOf
  rw [e]; rfl
theorem val_at {mem : List (Int × Int)} {k : Int} (h : k ∈ mem.map (·.1)) : valV (memK mem) (.inl k) = some (.int (ldOf mem k)) := by
  have h1 := valV_memK mem k
  cases hv : valV (memK mem) (.inl k) with
  | none =>
    have h2 := valV_not hv
    exact absurd (by unfold memK; rw [List.map_map]; obtain ⟨p, hp, e⟩ := List.mem_map.mp h; exact List.mem_map.mpr ⟨p, hp, congrArg Sum.inl e⟩) h2
  | some z => rw [hv] at h1; exact congrArg some h1
abbrev sp_checked_fields (K : PySem.W.Frag) : Sp := fun vs H Q _ => ∃ (v : V) (pr t d ou : Addr) (m R : Nat) (xs : List Int) (rv : V) (r : List Int) (mem : List (Int × Int)), vs = [v, .ref pr, .ref t] ∧ IsSh K H v m R ∧ (4 ≤ m ∧ m ≤ 16) ∧ (R = 2 ∨ R = 4 ∨ R = 8) ∧
  H pr = some (.tup (intV xs)) ∧ (1 ≤ xs.length ∧ xs.length ≤ 256) ∧ (∀ x ∈ xs, 0 ≤ x ∧ x ≤ 65535) ∧ H t = some (.tup [.int 0, rv, .ref d, .int 0, .bl false, .non, .ref ou]) ∧
  ((rv = .non ∧ r = List.replicate R 0) ∨ ∃ rg, rv = .ref rg ∧ H rg = some (.tup (intV r))) ∧ r.length = R ∧ (∀ x ∈ r, Wd m x) ∧ r[0]? = some 0 ∧ H d = some (.dK (memK mem)) ∧ MemOk m mem ∧ SqT K H ou [] ∧
  ∀ p rg me H', Same H H' → H' rg = some (.tup (intV r)) → H' me = some (.dK (memK mem)) → H' p = some (.tup [v, .ref pr, .int 0, .ref rg, .ref me, .int 0, .bl false, .non, .ref ou]) → Q (.ref p) H'
theorem ok_checked_fields (T : Txt w K mg base) : C8.Cal P w K mg base 6 "checked_fields" (sp_checked_fields K) [] := by
  refine cal_of T.f_checked_fields T.m_checked_fields sc_checked_fields (fun vs H Q E h => ?_) (fun _ _ _ _ _ _ us hl => match us, hl with | [_, _, _], _ => rfl) fun cdv A outer s H vs Q E hr h => ?_
  · obtain ⟨_, _, _, _, _, _, _, _, _, _, _, rfl, _⟩ := h; rfl
  obtain ⟨v, pr, t, d, ou, m, R, xs, rv, r, mem, rfl, q⟩ := h
  refine ⟨_, pss_cons (ps_asg (pv 2) (pg_tup rfl (pgs_cons (pg_name (i := 3) sc_checked_fields.nd rfl (Or.inl rfl)) (pgs_cons (pg_name (i := 4) sc_checked_fields.nd rfl (Or.inl rfl)) (pgs_cons (pg_name (i := 5) sc_checked_fields.nd rfl (Or.inl rfl)) (pgs_cons (pg_name (i := 6) sc_checked_fields.nd rfl (Or.inl rfl)) (pgs_cons (pg_name (i := 7) sc_checked_fields.nd rfl (Or.inl rfl)) (pgs_cons (pg_name (i := 8) sc_checked_fields.nd rfl (Or.inl rfl)) (pgs_cons (pg_name (i := 9) sc_checked_fields.nd rfl (Or.inl rfl)) pgs_nil)))))))))
  (pss_cons (ps_expr (C8.pe_c (ok_require_shape T) hr (by omega) rfl (pa_cons (pv 0) pa_nil)))
  (pss_cons (ps_expr (C8.pe_c (ok_require_program T) hr (by omega) rfl (pa_cons (pv 1) pa_nil)))
  (pss_cons (ps_set (i := 10) sc_checked_fields.nd rfl (Or.inl rfl) (SlX.pe_sl (pv 0)))
  (C8.pss_cut (ps_set (i := 11) sc_checked_fields.nd rfl (Or.inl rfl) (pe_ifExp (pt_cmpR op_isN0 (pv 4) (pe_non) (nomark _)) (pe_op op_repT (pe_tup (pa_cons (pe_int) pa_nil)) (SlX.pe_sl (pv 0))) (pv 4)))
  (pss_cons (ps_if (PW.pt (pw_or (pt_not (pt_val (C8.pe_c (ok_are_words T) hr (by omega) rfl (pa_cons (pv 10) (pa_cons (pe_tup (pa_cons (pv 3) pa_nil)) pa_nil))))) (pw_or (pt_not (pt_val (C8.pe_c (ok_are_words T) hr (by omega) rfl (pa_cons (pv 10) (pa_cons (pv 11) pa_nil))))) (pw_or (pt_cmpR op_ne (pe_callB call_lenS (by rfl) T.n_len (by decide +kernel) (pa_cons (pv 11) pa_nil)) (SlX.pe_sl (pv 0)) (nomark _)) (pw_or1 (pt_cmpR op_ne (pe_ix ix_tup (pv 11) (pe_int) (fun _ _ => rfl)) (pe_int) (nomark _)))))))
    (pss_one (ps_never))
    (pss_nil))
  (pss_cons (ps_set (i := 12) sc_checked_fields.nd rfl (Or.inr rfl) (pe_ifExp (pt_cmpR op_isN0 (pv 5) (pe_non) (nomark _)) (pe_no) (pv 5)))
  (pss_cons (ps_expr (C8.pe_c (ok_require_memory T) hr (by omega) rfl (pa_cons (pv 0) (pa_cons (pv 12) pa_nil))))
  (pss_cons (ps_if (PW.pt (pw_or (pt_not (pt_val (C8.pe_c (ok_are_words T) hr (by omega) rfl (pa_cons (pv 10) (pa_cons (pe_tup (pa_cons (pv 6) pa_nil)) pa_nil))))) (pw_or (pt_not (pt_val (pe_callB call_isi (by rfl) T.n_isinstance (by decide +kernel) (pa_cons (pv 7) (pa_cons (pe_bltn (v := .ty "bool") (by rfl) T.n_bool (by decide +kernel) rfl) pa_nil))))) (pw_or1 (pt_not (pt_val (C8.pe_c (ok_are_words T) hr (by omega) rfl (pa_cons (pv 10) (pa_cons (pv 9) pa_nil)))))))))
    (pss_one (ps_never))
    (pss_nil))
  (pss_cons (ps_if (pt_not (pt_val (C8.pe_c (ok_is_end T) hr (by omega) rfl (pa_cons (pv 8) pa_nil))))
    (pss_one (ps_never))
    (pss_nil))
  (pss_one (ps_ret (pe_tup (pa_cons (pv 0) (pa_cons (pv 1) (pa_cons (pv 3) (pa_cons (pv 11) (pa_cons (pe_dc rfl sc_checked_fields.nd (pi_list (pe_callB (call_sortD rfl) (by rfl) T.n_sorted (by decide +kernel) (pa_cons (pv 12) pa_nil))) (blkOk_by (N := ["shape", "program", "told", "pc", "registers", "memory", "saved", "allowed", "ended", "outputs", "width", "row", "some", "at"]) (sc := defScope (top 92)) (own := [("at", 13)]) (by decide +kernel)) (fun _ _ _ _ _ => pg_name (i := 13) sc_checked_fields.nd rfl (Or.inl rfl)) (fun _ _ _ _ _ => pts_nil) (fun _ _ _ _ _ => pv 13) (fun _ _ _ _ _ => pe_dget (hu_of hr) (pv 12) (pv 13) (fun _ _ => rfl))) (pa_cons (pv 6) (pa_cons (pv 7) (pa_cons (pv 8) (pa_cons (pv 9) pa_nil))))))))))))))))))))), ?_⟩
  obtain ⟨hs, hm, hR, hpr, hxl, hx, ht, hrv, hrl, hrw, hr0, hd, hmem, hou, q⟩ := q
  have hR8 : 2 ≤ R ∧ R ≤ 8 := by rcases hR with h | h | h <;> omega
  walk_at "w"
  refine a_gtup (SqT.of ht) rfl ?_
  walk_at "w"
  refine ⟨v, m, R, rfl, hs, fun H1 S1 => ?_⟩
  walk_at "w"
  refine ⟨pr, xs, rfl, S1 _ _ hpr, hxl, hx, fun H2 S2 => ?_⟩
  have S02 := S1.trans S2
  obtain ⟨sa, sdx, rfl, hsl⟩ := hs
  walk_at "w"
  refine a_slot T.sc_Shape T.s_Shape_own_width (slt_same S02 hsl) rfl ?_
  walk_at "w"
  refine a_cut (fun σ' H' => ∃ rg, σ' = [some (.ref sa), some (.ref pr), some (.ref t), some (.int 0), some rv, some (.ref d), some (.int 0), some (.bl false), some .non, some (.ref ou), some (.int (m : Int)), some (.ref rg), none, none] ∧ Same H H' ∧ H' rg = some (.tup (intV r))) ?_ ?_
  · rcases hrv with ⟨rfl, hrr⟩ | ⟨rg, rfl, hrg⟩
    · walk_at "w"
      refine d_t rfl ?_
      walk_at "w"
      walk_at "t"
      intro p1 H3 n3 S3 e3
      have S03 := S02.trans S3
      walk_at "w"
      refine a_slot T.sc_Shape T.s_Shape_own_registers (slt_same S03 hsl) rfl ?_
      refine a_repT (SqT.of e3) (List.cons_ne_nil _ _) (by omega) (by decide) (a_new fun p2 H4 n4 S4 e4 => ?_)
      walk_at "w"
      refine ⟨p2, rfl, S03.trans S4, ?_⟩
      rw [e4, hrr]
      unfold intV
      rw [List.map_replicate, Int.toNat_natCast]
      congr 2
      clear hrr e4 hR hR8 hrl hsl
      induction R with
      | zero => rfl
      | succ n ih => rw [List.replicate_succ, List.flatten_cons, ih, List.replicate_succ]; rfl
    · walk_at "w"
      refine d_f (fun h => nomatch h) ?_
      walk_at "w"
      exact ⟨rg, rfl, S02, S02 _ _ hrg⟩
  · intro σ' H3 ⟨rg, eσ, S03, hrg⟩
    subst eσ
    walk_at "w"
    walk_at "t"
    intro p4 H4 n4 S4 e4
    have S04 := S03.trans S4
    walk_at "w"
    refine ⟨m, p4, [0], .none, rfl, SqT.of e4, .base (.tup e4), hm.2, by decide, fun x hx => by rw [List.mem_singleton.mp hx]; exact ⟨Int.le_refl _, two_pos m⟩, fun H5 S5 => ?_⟩
    have S05 := S04.trans S5
    have hrg5 : H5 rg = some (.tup (intV r)) := S5 _ _ (S4 _ _ hrg)
    walk_at "w"
    refine iteF ?_
    walk_at "w"
    refine ⟨m, rg, r, .none, rfl, SqT.of hrg5, .base (.tup hrg5), hm.2, by omega, hrw, fun H6 S6 => ?_⟩
    have S06 := S05.trans S6
    have hrg6 := S6 _ _ hrg5
    walk_at "w"
    refine iteF ?_
    walk_at "w"
    refine a_lenT (SqT.of hrg6) ?_
    rw [intV_len, hrl]
    walk_at "w"
    refine a_slot T.sc_Shape T.s_Shape_own_registers (slt_same S06 hsl) rfl ?_
    walk_at "w"
    refine d_nf rfl ?_
    walk_at "w"
    refine a_ixT (SqT.of hrg6) (at_of (j := 0) rfl (at_int hr0)) ?_
    walk_at "w"
    refine d_nf rfl ?_
    walk_at "w"
    refine d_f (fun h => nomatch h) ?_
    walk_at "w"
    refine ⟨.ref sa, m, R, d, mem, rfl, ⟨sa, sdx, rfl, slt_same S06 hsl⟩, S06 _ _ hd, hm.2, by have := hmem.2.1; omega, hmem.2.2, fun H7 S7 => ?_⟩
    have S07 := S06.trans S7
    walk_at "w"
    walk_at "t"
    intro p8 H8 n8 S8 e8
    have S08 := S07.trans S8
    walk_at "w"
    refine ⟨m, p8, [0], .none, rfl, SqT.of e8, .base (.tup e8), hm.2, by decide, fun x hx => by rw [List.mem_singleton.mp hx]; exact ⟨Int.le_refl _, two_pos m⟩, fun H9 S9 => ?_⟩
    have S09 := S08.trans S9
    walk_at "w"
    refine iteF ?_
    walk_at "w"
    refine a_isi (.ty _) (.base (.bl _)) (kit_ty (r := true) (by decide +kernel)) ?_
    walk_at "w"
    refine iteF ?_
    walk_at "w"
    have hou9 := sqT_same S09 hou
    refine ⟨m, ou, [], .none, rfl, hou9, tyT hou9, hm.2, by decide, (fun x hx => nomatch hx), fun H10 S10 => ?_⟩
    have S010 := S09.trans S10
    walk_at "w"
    refine iteF ?_
    walk_at "w"
    refine ⟨rfl, fun H11 S11 => ?_⟩
    have S011 := S010.trans S11
    walk_at "w"
    refine iteF ?_
    walk_at "w"
    have hd11 := S011 _ _ hd
    refine a_sortD hd11 (ks := mem.map (·.1)) (by unfold memK; rw [List.map_map, List.map_map]; rfl) (by rw [List.length_map]; have := hmem.2.1; omega) fun ys y1 y2 => ?_
    obtain rfl := sorted_self y1 y2 hmem.keys
    refine a_new fun p12 H12 n12 S12 e12 => ?_
    refine ⟨p12, rfl, ⟨_, SqL.of e12⟩, ?_⟩
    have S012 := S011.trans S12
    refine dc_ofL (SqL.of e12) (by rw [List.length_map]; have := hmem.2.1; omega) hmem.nd (fun k => .int (ldOf mem k)) (fun k H' R' hk S' h1 => ?_) fun D H13 S13 n13 e13 => ?_
    · walk_at "w"
      refine ⟨rfl, ?_⟩
      walk_at "w"
      have g := DGet.k (k := .inl k) ((S012.trans S') _ _ hd)
      rw [val_at hk] at g
      exact ⟨d, _, rfl, g, h1 _ (Same.refl _)⟩
    · rw [mem_find hmem] at e13
      walk_at "w"
      walk_at "t"
      intro p14 H14 n14 S14 e14
      have S1314 := S13.trans S14
      exact q p14 rg D H14 (S012.trans S1314) (((S7.trans S8).trans S9).trans ((S10.trans S11).trans (S12.trans S1314)) _ _ hrg6) (S14 _ _ e13) e14
end
end K83
end
section
set_option maxRecDepth 100000
set_option maxHeartbeats 4000000
namespace K83
open PySem PySem.Spec PyProof.Rows L2
/-! ## Plain's arguments: how they bind -/
abbrev plPs : List Str := ["self", "shape", "program", "pc", "registers", "memory", "saved", "allowed", "ended", "outputs"]
section
variable {K : PySem.W.Frag} {fd : FuncData} {f : Addr} {o : Addr}
abbrev plKw (o : Addr) : List (Str × V) := [("pc", .int 0), ("registers", .non), ("memory", .non), ("saved", .int 0), ("allowed", .bl false), ("ended", .non), ("outputs", .ref o)]
abbrev plSt : Stmt := inClass (top 96) 1
theorem pl_pos (F : FunD K "__init__" "Plain.__init__" (defArgs plSt) (defBody plSt) (defScope plSt) [] (plKw o) f fd) : ∃ ds, Vals ((plKw o).map (·.2)) ds ∧ L2.Binds K fd plPs ds := by
  refine F.binds0 3 (List.cons_ne_nil _ _) rfl fun D doc pm an cdv ct us ks h1 h2 => ?_
  match us, h1, ks, h2 with
  | [u1, u2, u3], _, [k1, k2, k3, k4, k5, k6, k7], _ =>
    exact ⟨_, _, _, _, _, _, rfl, rfl, _, _, _, _, _, _, rfl, rfl, _, _, _, _, _, _, rfl, rfl, _, _, _, _, _, _, rfl, rfl, _, _, _, _, _, _, rfl, rfl, _, _, _, _, _, _, rfl, rfl, _, _, _, _, _, _, rfl, rfl, rfl⟩
theorem pl_key2 (F : FunD K "__init__" "Plain.__init__" (defArgs plSt) (defBody plSt) (defScope plSt) [] (plKw o) f fd) :
    ∃ mv : List Value, KBn K fd plPs 3 ["registers", "memory"] (fun us ws => us ++ mv.take 1 ++ ws ++ mv.drop 1) (fun vs zs => vs ++ [.int 0] ++ zs ++ [.int 0, .bl false, .non, .ref o]) :=
  F.kbinds0 3 ["registers", "memory"] [("pc", .int 0), ("saved", .int 0), ("allowed", .bl false), ("ended", .non), ("outputs", .ref o)] (fun vs mz zs => vs ++ mz.take 1 ++ zs ++ mz.drop 1) (List.cons_ne_nil _ _)
    (by intro q hq; simp only [List.mem_cons, List.not_mem_nil, or_false] at hq ⊢; rcases hq with h | h | h | h | h <;> simp [h])
    (fun r1 r2 r3 => ((r1.append (r2.take 1)).append r3).append (r2.drop 1)) fun D doc pm an cdv ct us mv ws h1 h2 h3 => by
  match us, h1, mv, h2, ws, h3 with
  | [u1, u2, u3], _, [k1, k2, k3, k4, k5], _, [w1, w2], _ =>
    exact ⟨_, _, _, _, _, _, rfl, rfl, _, _, _, _, _, _, rfl, rfl, _, _, _, _, _, _, rfl, rfl, _, _, _, _, _, _, rfl, rfl, _, _, _, _, _, _, rfl, rfl, rfl⟩
theorem pl_key1 (F : FunD K "__init__" "Plain.__init__" (defArgs plSt) (defBody plSt) (defScope plSt) [] (plKw o) f fd) :
    ∃ mv : List Value, KBn K fd plPs 3 ["memory"] (fun us ws => us ++ mv.take 2 ++ ws ++ mv.drop 2) (fun vs zs => vs ++ [.int 0, .non] ++ zs ++ [.int 0, .bl false, .non, .ref o]) :=
  F.kbinds0 3 ["memory"] [("pc", .int 0), ("registers", .non), ("saved", .int 0), ("allowed", .bl false), ("ended", .non), ("outputs", .ref o)] (fun vs mz zs => vs ++ mz.take 2 ++ zs ++ mz.drop 2) (List.cons_ne_nil _ _)
    (by intro q hq; simp only [List.mem_cons, List.not_mem_nil, or_false] at hq ⊢; rcases hq with h | h | h | h | h | h <;> simp [h])
    (fun r1 r2 r3 => ((r1.append (r2.take 2)).append r3).append (r2.drop 2)) fun D doc pm an cdv ct us mv ws h1 h2 h3 => by
  match us, h1, mv, h2, ws, h3 with
  | [u1, u2, u3], _, [k1, k2, k3, k4, k5, k6], _, [w1], _ =>
    exact ⟨_, _, _, _, _, _, rfl, rfl, _, _, _, _, _, _, rfl, rfl, _, _, _, _, _, _, rfl, rfl, _, _, _, _, _, _, rfl, rfl, _, _, _, _, _, _, rfl, rfl, _, _, _, _, _, _, rfl, rfl, rfl⟩
end
/-! ## for: the turns -/
section
variable {K : PySem.W.Frag} {n : L2.St → Hp → Prop} {r : VK} {bk ct : L2.St → Hp → Prop} {σ : L2.St} {H : Hp} {Q : VK} {D : Ends}
def forGo (J : It) (g : TG) (tb : TS) (D : Ends) (σ : L2.St) (H1 : Hp) : Prop := ∃ W : Nat → Nat → L2.St → Hp → Prop, (∃ m, W 0 m σ H1) ∧ ∀ i m σ H, W i m σ H →
  (J.stop i H ∧ D.nx σ H) ∨ (J.go i H ∧ ∃ N : L2.St → Hp → Prop, (∀ σ' H', N σ' H' → ∃ m', m' < m ∧ W (i + 1) m' σ' H') ∧ ∀ x H', J.yld i H x H' → g x σ H' fun σ2 H2 => tb { D with nx := N, ct := N, bk := D.nx } σ2 H2)
theorem a_for {wi : TI} {g : TG} {tb : TS} (h : wi σ H fun J H1 => forGo J g tb D σ H1) : tFor wi g tb D σ H := h
theorem a_rng1 {ta : TA} {R : It → Hp → Prop} (h : ta σ H fun vs H1 => ∃ j : Int, vs = [.int j] ∧ -(2 ^ 62) ≤ j ∧ j < 2 ^ 62 ∧ R (Itr 0 j.toNat) H1) : iRng1 ta σ H R := h
theorem a_rng2 {ta : TA} {R : It → Hp → Prop} (h : ta σ H fun vs H1 => ∃ i j : Int, vs = [.int i, .int j] ∧ (-(2 ^ 62) ≤ i ∧ i < 2 ^ 62 ∧ -(2 ^ 62) ≤ j ∧ j < 2 ^ 62) ∧ R (Itr i (j - i).toNat) H1) : iRng2 ta σ H R := h
/-- over lo, lo + 1, .. -/
theorem for_up {lo : Int} {m : Nat} {g : TG} {tb : TS} (Pv : Nat → L2.St → Hp → Prop) (h0 : Pv 0 σ H)
    (hs : ∀ i σ H, i < m → Pv i σ H → g (.int (lo + i)) σ H fun σ2 H2 => tb ⟨Pv (i + 1), r, n, Pv (i + 1)⟩ σ2 H2) (hd : ∀ σ H, Pv m σ H → n σ H) : forGo (Itr lo m) g tb ⟨n, r, bk, ct⟩ σ H :=
  for_range (D := ⟨n, r, bk, ct⟩) Pv h0 hs hd
end
end K83
end
section
set_option maxRecDepth 100000
set_option maxHeartbeats 4000000
namespace K83
open PySem PySem.Spec PyProof.Rows L2
local macro_rules | `(tactic| walk_at "s") => `(tactic| first
  | with_reducible refine a_seq ?_ | ((with_reducible refine a_varX ?_); refine ⟨_, rfl, ?_⟩) | with_reducible refine a_c ?_ | with_reducible refine a_op ?_ | with_reducible refine a_rI0 ?_ | with_reducible refine a_cons ?_ | with_reducible refine a_nil ?_
  | with_reducible refine a_next ?_ | with_reducible refine a_ret ?_ | with_reducible refine a_retN ?_ | with_reducible refine a_drop ?_ | with_reducible refine a_if ?_ | with_reducible refine a_asg ?_ | with_reducible refine a_un ?_
  | with_reducible refine a_rU ?_ | with_reducible refine a_eqI ?_ | with_reducible refine a_neI ?_ | with_reducible refine a_eqS ?_ | with_reducible refine a_neS ?_ | with_reducible refine a_test ?_ | with_reducible refine a_tB ?_ | with_reducible refine a_bl ?_ | with_reducible refine a_int ?_
  | with_reducible refine a_and ?_ | with_reducible refine a_or ?_ | with_reducible refine a_not ?_ | with_reducible refine a_andV ?_ | with_reducible refine a_orV ?_ | with_reducible refine a_notV ?_ | with_reducible refine a_ifE ?_ | with_reducible refine a_chain ?_ | with_reducible refine a_call ?_ | with_reducible refine a_cb ?_ | with_reducible refine a_star ?_
  | ((with_reducible refine a_nameX ?_); refine ⟨_, (by simp only [L2.wipe, L2.start, List.map_cons, List.map_nil, List.length_cons, List.length_nil, List.replicate_succ, List.replicate_zero, Nat.reduceSub, Nat.reduceAdd, Nat.zero_add, List.cons_append, List.nil_append, List.set_cons_zero, List.set_cons_succ]; exact rfl), ?_⟩) | with_reducible refine a_gcons ?_ | with_reducible refine a_gnil ?_ | with_reducible refine a_gsub ?_ | with_reducible refine a_par ?_ | ((with_reducible refine a_parX rfl ?_); refine ⟨_, (by simp only [L2.wipe, L2.start, List.map_cons, List.map_nil, List.length_cons, List.length_nil, List.replicate_succ, List.replicate_zero, Nat.reduceSub, Nat.reduceAdd, Nat.zero_add, List.cons_append, List.nil_append, List.set_cons_zero, List.set_cons_succ]; exact rfl), ?_⟩) | ((with_reducible refine a_augX ?_); refine ⟨_, rfl, ?_⟩) | with_reducible refine a_ipI ?_ | with_reducible refine a_tup ?_ | with_reducible refine a_lst ?_ | with_reducible refine a_sl ?_ | with_reducible refine a_sslX ?_
  | with_reducible refine a_tsl ?_ | with_reducible refine a_noPart ?_ | with_reducible refine a_part ?_ | with_reducible refine a_i1 ?_ | with_reducible refine a_i1b ?_ | with_reducible refine a_mx ?_ | with_reducible refine a_mn ?_ | with_reducible refine a_ab ?_ | with_reducible refine a_mat ?_ | with_reducible refine a_case ?_
  | ((with_reducible refine a_oneS ?_ ?_); omega) | ((with_reducible refine a_mask 1 ?_ ?_); decide) | ((with_reducible refine a_mask 3 ?_ ?_); decide) | ((with_reducible refine a_mask 6 ?_ ?_); decide) | ((with_reducible refine a_mask 9 ?_ ?_); decide) | ((with_reducible refine a_rI ?_ ?_); first | exact ⟨by decide, by decide⟩ | decide)
  | ((with_reducible refine a_shlK 12 ?_ ?_ ?_); rfl; exact shl_small (by omega) (by omega) (by decide)) | ((with_reducible refine a_shlK 9 ?_ ?_ ?_); rfl; exact shl_small (by omega) (by omega) (by decide)) | ((with_reducible refine a_shlK 6 ?_ ?_ ?_); rfl; exact shl_small (by omega) (by omega) (by decide)) | with_reducible refine a_kdGet ?_
  | with_reducible refine a_bm0 ?_ | with_reducible refine a_bm ?_ | with_reducible refine a_dnewT ?_ | with_reducible refine a_gsl ?_ | with_reducible refine a_mk ?_
  | with_reducible refine a_dget2 ?_ | with_reducible refine a_dnewK ?_ | with_reducible refine a_tli ?_ | with_reducible refine a_pair ?_ | with_reducible refine a_pair0 ?_
  | with_reducible refine a_lc ?_ | with_reducible refine a_itup ?_ | with_reducible refine a_ilst ?_ | with_reducible refine a_yes ?_ | with_reducible refine a_iitems ?_ | with_reducible refine a_dc ?_ | with_reducible refine a_isN0 ?_ | with_reducible refine a_notN0 ?_ | with_reducible refine a_izip ?_ | with_reducible refine a_dget ?_ | with_reducible refine a_propSl ?_ | with_reducible refine a_methSl ?_ | with_reducible refine a_for ?_ | with_reducible refine a_rng1 ?_ | with_reducible refine a_rng2 ?_
  | with_reducible refine iteT ?_ | with_reducible refine iteF ?_)
local macro_rules | `(tactic| walk_at "t") => `(tactic| refine ⟨Nat.le_of_ble_eq_true rfl, a_new ?_⟩)
local macro_rules | `(tactic| walk_at "w") => `(tactic| repeat walk_at "s")
local macro_rules | `(tactic| walk_at "t0") => `(tactic| refine ⟨Nat.le_of_ble_eq_true rfl, ?_⟩)
section
variable {P : Program} {w : World} {K : PySem.W.Frag} {mg : Str → Option Value} {base : Heap}
/-! ### KnownFields -/
theorem sc_KnownFields_init : FnScope ["self", "told"] ["self", "told"] (defScope (inClass (top 95) 1)) := ⟨rfl, rfl, rfl, by decide +kernel, rfl, by decide +kernel, by decide +kernel⟩
abbrev sp_KnownFields_init (K : PySem.W.Frag) : Sp := fun vs H Q _ => ∃ (x dx : Addr) (v : V), vs = [.ref x, v] ∧ H x = some (.ins (He.ga K "KnownFields") dx []) ∧ dx ≠ x ∧ ∀ H', But2 x dx H H' → SlX.Slt H' x (He.ga K "KnownFields") dx [some v] → Q .non H'
theorem mk_KnownFields (T : Txt w K mg base) : C8.Mak P w K mg base 1 "KnownFields" (He.ga K "KnownFields") (sp_KnownFields_init K) [] := by
  refine mak_of T.mk_KnownFields T.m_KnownFields T.f_KnownFields_init sc_KnownFields_init (fun vs H Q E h => ?_) (fun _ _ _ _ _ _ us hl => match us, hl with | [_, _], _ => rfl) fun cdv A outer s H vs Q E hr h => ?_
  · obtain ⟨_, _, _, rfl, _⟩ := h; rfl
  obtain ⟨x, dx, v, rfl, hx, hne, q⟩ := h
  refine ⟨_, pss_one (SlX.ps_sl (pv 0) (pv 1)), ?_⟩
  walk_at "w"
  have s0 : SlX.Slt H x (He.ga K "KnownFields") dx [] := .inl ⟨hx, rfl⟩
  refine a_put T.sc_KnownFields T.s_KnownFields_own_told s0 ?_
  exact q _ ((But2.refl x dx H).slH) (slt_ne (i := 0) (v := v) s0 hne)
/-! ### Plain.__init__ -/
theorem sc_Plain_init : FnScope ["self", "shape", "program", "pc", "registers", "memory", "saved", "allowed", "ended", "outputs", "told"] ["self", "shape", "program", "pc", "registers", "memory", "saved", "allowed", "ended", "outputs"] (defScope (inClass (top 96) 1)) := ⟨rfl, rfl, rfl, by decide +kernel, rfl, by decide +kernel, by decide +kernel⟩
/-- the slots of a Plain: allowed, ended, memory, outputs, pc, program, registers, saved, shape -/
def plS (v0 v1 v2 v3 v4 v5 v6 v7 v8 : V) : List (Option V) := [some v6, some v7, some v4, some v8, some v2, some v1, some v3, some v5, some v0]
abbrev sp_Plain_init (K : PySem.W.Frag) : Sp := fun vs H Q _ => ∃ (x dx : Addr) (shv pgv pcv rgv mev sav alv env ouv : V), vs = [.ref x, shv, pgv, pcv, rgv, mev, sav, alv, env, ouv] ∧ H x = some (.ins (He.ga K "Plain") dx []) ∧ dx ≠ x ∧ H dx = some (.own x) ∧
  ((∃ (k dk t : Addr) (v0 v1 v2 v3 v4 v5 v6 v7 v8 : V), shv = .ref k ∧ SlX.Slt H k (He.ga K "KnownFields") dk [some (.ref t)] ∧ H t = some (.tup [v0, v1, v2, v3, v4, v5, v6, v7, v8]) ∧
      ∀ H', But2 x dx H H' → SlX.Slt H' x (He.ga K "Plain") dx (plS v0 v1 v2 v3 v4 v5 v6 v7 v8) → Q .non H') ∨
   (∃ (pr d ou : Addr) (m R : Nat) (xs r : List Int) (mem : List (Int × Int)), pgv = .ref pr ∧ mev = .ref d ∧ ouv = .ref ou ∧ pcv = .int 0 ∧ sav = .int 0 ∧ alv = .bl false ∧ env = .non ∧ IsSh K H shv m R ∧ (4 ≤ m ∧ m ≤ 16) ∧ (R = 2 ∨ R = 4 ∨ R = 8) ∧
      H pr = some (.tup (intV xs)) ∧ (1 ≤ xs.length ∧ xs.length ≤ 256) ∧ (∀ x ∈ xs, 0 ≤ x ∧ x ≤ 65535) ∧
      ((rgv = .non ∧ r = List.replicate R 0) ∨ ∃ rg, rgv = .ref rg ∧ H rg = some (.tup (intV r))) ∧ r.length = R ∧ (∀ x ∈ r, Wd m x) ∧ r[0]? = some 0 ∧ H d = some (.dK (memK mem)) ∧ MemOk m mem ∧ SqT K H ou [] ∧
      ∀ rg me H', But2 x dx H H' → H' rg = some (.tup (intV r)) → H' me = some (.dK (memK mem)) → SlX.Slt H' x (He.ga K "Plain") dx (plS shv (.ref pr) (.int 0) (.ref rg) (.ref me) (.int 0) (.bl false) .non (.ref ou)) → Q .non H'))
theorem fn_Plain_init (T : Txt w K mg base) : ∃ fd, FnOk P w K mg base C8.CX0 7 (He.ma K (He.ga K "Plain") "__init__") fd plPs (sp_Plain_init K) ∧ FunD K "__init__" "Plain.__init__" (defArgs plSt) (defBody plSt) (defScope plSt) [] (plKw (outsAt K)) (He.ma K (He.ga K "Plain") "__init__") fd := by
  obtain ⟨fd, F⟩ := T.f_Plain_init
  refine ⟨fd, F.ok sc_Plain_init (fun vs H Q E h => ?_) fun cdv A outer s H vs Q E hr h => ?_, F⟩
  · obtain ⟨_, _, _, _, _, _, _, _, _, _, _, rfl, _⟩ := h; rfl
  suffices hh : ∃ t, PSs (cxOf C8.CX0 P w K mg base ["self", "shape", "program", "pc", "registers", "memory", "saved", "allowed", "ended", "outputs", "told"] "Plain.__init__" (defScope plSt) (He.ma K (He.ga K "Plain") "__init__") cdv A outer s H E).nox (defBody plSt) t ∧
      t ⟨fun _ H' => Q .non H', Q, fun _ _ => False, fun _ _ => False⟩ (start ["self", "shape", "program", "pc", "registers", "memory", "saved", "allowed", "ended", "outputs", "told"] vs) H by
    obtain ⟨t, a, b⟩ := hh
    exact ⟨t, a.nox, b⟩
  obtain ⟨x, dx, shv, pgv, pcv, rgv, mev, sav, alv, env, ouv, rfl, hx, hne, hdx, h⟩ := h
  refine ⟨_, C8.pss_cut (ps_if (pt_val (pe_callB (SlX.call_isiSl (.ref (He.ga K "KnownFields"))) (by rfl) T.n_isinstance (by decide +kernel) (pa_cons (pv 1) (pa_cons (C8.pe_gc rfl T.c_KnownFields) pa_nil))))
    (pss_one (ps_set (i := 10) sc_Plain_init.nd rfl (Or.inl rfl) (SlX.pe_sl (pv 1))))
    (pss_one (ps_set (i := 10) sc_Plain_init.nd rfl (Or.inl rfl) (C8.pe_c (ok_checked_fields T) hr (by omega) rfl (pa_cons (pv 1) (pa_cons (pv 2) (pa_cons (pe_tup (pa_cons (pv 3) (pa_cons (pv 4) (pa_cons (pv 5) (pa_cons (pv 6) (pa_cons (pv 7) (pa_cons (pv 8) (pa_cons (pv 9) pa_nil)))))))) pa_nil)))))))
  (pss_cons (ps_asg (pe_slice sl_tupA (pv 10) po_none (po_some (pe_int))) (pg_tup rfl (pgs_cons (pg_sl (pv 0)) (pgs_cons (pg_sl (pv 0)) (pgs_cons (pg_sl (pv 0)) (pgs_cons (pg_sl (pv 0)) (pgs_cons (pg_sl (pv 0)) pgs_nil)))))))
  (pss_one (ps_asg (pe_slice sl_tupA (pv 10) (po_some (pe_int)) po_none) (pg_tup rfl (pgs_cons (pg_sl (pv 0)) (pgs_cons (pg_sl (pv 0)) (pgs_cons (pg_sl (pv 0)) (pgs_cons (pg_sl (pv 0)) pgs_nil)))))))), ?_⟩
  refine a_cut (fun σ' H' => ∃ t v0 v1 v2 v3 v4 v5 v6 v7 v8, σ' = [some (.ref x), some shv, some pgv, some pcv, some rgv, some mev, some sav, some alv, some env, some ouv, some (.ref t)] ∧ H' t = some (.tup [v0, v1, v2, v3, v4, v5, v6, v7, v8]) ∧ Same H H' ∧
    ∀ H2, But2 x dx H' H2 → SlX.Slt H2 x (He.ga K "Plain") dx (plS v0 v1 v2 v3 v4 v5 v6 v7 v8) → Q .non H2) ?_ ?_
  · rcases h with ⟨k, dk, t, v0, v1, v2, v3, v4, v5, v6, v7, v8, rfl, hk, ht, q⟩ | ⟨pr, d, ou, m, R, xs, r, mem, rfl, rfl, rfl, rfl, rfl, rfl, rfl, hs, hm, hR, hpr, hxl, hxx, hrv, hrl, hrw, hr0, hd, hmem, hou, q⟩
    · walk_at "w"
      refine a_isiSl rfl (fun w e => e) hk T.sc_KnownFields T.si_KnownFields T.k_KnownFields_KnownFields ?_
      walk_at "w"
      refine a_slot T.sc_KnownFields T.s_KnownFields_own_told hk rfl ?_
      walk_at "w"
      exact ⟨t, v0, v1, v2, v3, v4, v5, v6, v7, v8, rfl, ht, Same.refl _, q⟩
    · obtain ⟨sa, sdx, rfl, hsl⟩ := hs
      walk_at "w"
      refine a_isiSl rfl (fun w e => e) hsl T.sc_Shape T.si_Shape T.k_Shape_KnownFields ?_
      walk_at "w"
      walk_at "t"
      intro t H1 n1 S1 e1
      walk_at "w"
      refine ⟨.ref sa, pr, t, d, ou, m, R, xs, rgv, r, mem, rfl, ⟨sa, sdx, rfl, slt_same S1 hsl⟩, hm, hR, S1 _ _ hpr, hxl, hxx, e1, ?_, hrl, hrw, hr0, S1 _ _ hd, hmem, sqT_same S1 hou, fun p rg me H2 S2 e2 e3 e4 => ?_⟩
      · rcases hrv with h | ⟨rg, h1, h2⟩
        · exact .inl h
        · exact .inr ⟨rg, h1, S1 _ _ h2⟩
      walk_at "w"
      refine ⟨p, _, _, _, _, _, _, _, _, _, rfl, e4, S1.trans S2, fun H3 B3 s3 => q rg me H3 (fun b o h1 h2 e => B3 b o h1 h2 ((S1.trans S2) _ _ e)) ?_ ?_ s3⟩
      · exact B3 _ _ (fun z => by have := (S1.trans S2) _ _ hx; rw [← z, e2] at this; cases this) (fun z => by have := (S1.trans S2) _ _ hdx; rw [← z, e2] at this; cases this) e2
      · exact B3 _ _ (fun z => by have := (S1.trans S2) _ _ hx; rw [← z, e3] at this; cases this) (fun z => by have := (S1.trans S2) _ _ hdx; rw [← z, e3] at this; cases this) e3
  · intro σ' H1 ⟨t, v0, v1, v2, v3, v4, v5, v6, v7, v8, eσ, ht, S1, q⟩
    subst eσ
    have s0 : SlX.Slt H1 x (He.ga K "Plain") dx [] := .inl ⟨S1 _ _ hx, rfl⟩
    walk_at "w"
    refine a_slP (SqT.of ht) (fun h => absurd h.2 (show ¬ (5 = 9) by decide)) (a_new fun p1 H2 n2 S2 e2 => ?_)
    replace e2 : H2 p1 = some (.tup [v0, v1, v2, v3, v4]) := e2
    refine a_gtup (SqT.of e2) rfl ?_
    walk_at "w"
    have s1 := slt_same S2 s0
    have B1 : But2 x dx H1 H2 := (But2.refl x dx H1).same S2
    refine ⟨x, _, dx, _, _, _, rfl, s1, T.sc_Plain, T.s_Plain_own_shape, ?_⟩
    generalize hG0 : SlX.slH H2 x (He.ga K "Plain") dx (SlX.putS 8 v0 []) = G0
    have t0 : SlX.Slt G0 x (He.ga K "Plain") dx [none, none, none, none, none, none, none, none, some v0] := by rw [← hG0]; exact slt_ne (i := 8) (v := v0) s1 hne
    have C0 : But2 x dx H1 G0 := by rw [← hG0]; exact B1.slH
    walk_at "w"
    refine ⟨x, _, dx, _, _, _, rfl, t0, T.sc_Plain, T.s_Plain_own_program, ?_⟩
    generalize hG1 : SlX.slH G0 x (He.ga K "Plain") dx (SlX.putS 5 v1 [none, none, none, none, none, none, none, none, some v0]) = G1
    have t1 : SlX.Slt G1 x (He.ga K "Plain") dx [none, none, none, none, none, some v1, none, none, some v0] := by rw [← hG1]; exact slt_ne (i := 5) (v := v1) t0 hne
    have C1 : But2 x dx H1 G1 := by rw [← hG1]; exact C0.slH
    walk_at "w"
    refine ⟨x, _, dx, _, _, _, rfl, t1, T.sc_Plain, T.s_Plain_own_pc, ?_⟩
    generalize hG2 : SlX.slH G1 x (He.ga K "Plain") dx (SlX.putS 4 v2 [none, none, none, none, none, some v1, none, none, some v0]) = G2
    have t2 : SlX.Slt G2 x (He.ga K "Plain") dx [none, none, none, none, some v2, some v1, none, none, some v0] := by rw [← hG2]; exact slt_ne (i := 4) (v := v2) t1 hne
    have C2 : But2 x dx H1 G2 := by rw [← hG2]; exact C1.slH
    walk_at "w"
    refine ⟨x, _, dx, _, _, _, rfl, t2, T.sc_Plain, T.s_Plain_own_registers, ?_⟩
    generalize hG3 : SlX.slH G2 x (He.ga K "Plain") dx (SlX.putS 6 v3 [none, none, none, none, some v2, some v1, none, none, some v0]) = G3
    have t3 : SlX.Slt G3 x (He.ga K "Plain") dx [none, none, none, none, some v2, some v1, some v3, none, some v0] := by rw [← hG3]; exact slt_ne (i := 6) (v := v3) t2 hne
    have C3 : But2 x dx H1 G3 := by rw [← hG3]; exact C2.slH
    walk_at "w"
    refine ⟨x, _, dx, _, _, _, rfl, t3, T.sc_Plain, T.s_Plain_own_memory, ?_⟩
    generalize hG4 : SlX.slH G3 x (He.ga K "Plain") dx (SlX.putS 2 v4 [none, none, none, none, some v2, some v1, some v3, none, some v0]) = G4
    have t4 : SlX.Slt G4 x (He.ga K "Plain") dx [none, none, some v4, none, some v2, some v1, some v3, none, some v0] := by rw [← hG4]; exact slt_ne (i := 2) (v := v4) t3 hne
    have C4 : But2 x dx H1 G4 := by rw [← hG4]; exact C3.slH
    walk_at "w"
    have htx : t ≠ x := fun z => by have := S1 _ _ hx; rw [← z, ht] at this; cases this
    have htd : t ≠ dx := fun z => by have := S1 _ _ hdx; rw [← z, ht] at this; cases this
    have ht7 := C4 _ _ htx htd ht
    refine a_slP (SqT.of ht7) (fun h => absurd h.1 (show ¬ (5 = 0) by decide)) (a_new fun p8 H8 n8 S8 e8 => ?_)
    replace e8 : H8 p8 = some (.tup [v5, v6, v7, v8]) := e8
    refine a_gtup (SqT.of e8) rfl ?_
    walk_at "w"
    have s8 := slt_same S8 t4
    have B8 := C4.same S8
    refine ⟨x, _, dx, _, _, _, rfl, s8, T.sc_Plain, T.s_Plain_own_saved, ?_⟩
    generalize hG5 : SlX.slH H8 x (He.ga K "Plain") dx (SlX.putS 7 v5 [none, none, some v4, none, some v2, some v1, some v3, none, some v0]) = G5
    have t5 : SlX.Slt G5 x (He.ga K "Plain") dx [none, none, some v4, none, some v2, some v1, some v3, some v5, some v0] := by rw [← hG5]; exact slt_ne (i := 7) (v := v5) s8 hne
    have C5 : But2 x dx H1 G5 := by rw [← hG5]; exact B8.slH
    walk_at "w"
    refine ⟨x, _, dx, _, _, _, rfl, t5, T.sc_Plain, T.s_Plain_own_allowed, ?_⟩
    generalize hG6 : SlX.slH G5 x (He.ga K "Plain") dx (SlX.putS 0 v6 [none, none, some v4, none, some v2, some v1, some v3, some v5, some v0]) = G6
    have t6 : SlX.Slt G6 x (He.ga K "Plain") dx [some v6, none, some v4, none, some v2, some v1, some v3, some v5, some v0] := by rw [← hG6]; exact slt_ne (i := 0) (v := v6) t5 hne
    have C6 : But2 x dx H1 G6 := by rw [← hG6]; exact C5.slH
    walk_at "w"
    refine ⟨x, _, dx, _, _, _, rfl, t6, T.sc_Plain, T.s_Plain_own_ended, ?_⟩
    generalize hG7 : SlX.slH G6 x (He.ga K "Plain") dx (SlX.putS 1 v7 [some v6, none, some v4, none, some v2, some v1, some v3, some v5, some v0]) = G7
    have t7 : SlX.Slt G7 x (He.ga K "Plain") dx [some v6, some v7, some v4, none, some v2, some v1, some v3, some v5, some v0] := by rw [← hG7]; exact slt_ne (i := 1) (v := v7) t6 hne
    have C7 : But2 x dx H1 G7 := by rw [← hG7]; exact C6.slH
    walk_at "w"
    refine ⟨x, _, dx, _, _, _, rfl, t7, T.sc_Plain, T.s_Plain_own_outputs, ?_⟩
    generalize hG8 : SlX.slH G7 x (He.ga K "Plain") dx (SlX.putS 3 v8 [some v6, some v7, some v4, none, some v2, some v1, some v3, some v5, some v0]) = G8
    have t8 : SlX.Slt G8 x (He.ga K "Plain") dx [some v6, some v7, some v4, some v8, some v2, some v1, some v3, some v5, some v0] := by rw [← hG8]; exact slt_ne (i := 3) (v := v8) t7 hne
    have C8 : But2 x dx H1 G8 := by rw [← hG8]; exact C7.slH
    walk_at "w"
    exact q _ C8 t8
end
end K83
end
section
set_option maxRecDepth 100000
set_option maxHeartbeats 4000000
namespace K83
open PySem PySem.Spec PyProof.Rows L2
local macro_rules | `(tactic| walk_at "s") => `(tactic| first
  | with_reducible refine a_seq ?_ | ((with_reducible refine a_varX ?_); refine ⟨_, rfl, ?_⟩) | with_reducible refine a_c ?_ | with_reducible refine a_op ?_ | with_reducible refine a_rI0 ?_ | with_reducible refine a_cons ?_ | with_reducible refine a_nil ?_
  | with_reducible refine a_next ?_ | with_reducible refine a_ret ?_ | with_reducible refine a_retN ?_ | with_reducible refine a_drop ?_ | with_reducible refine a_if ?_ | with_reducible refine a_asg ?_ | with_reducible refine a_un ?_
  | with_reducible refine a_rU ?_ | with_reducible refine a_eqI ?_ | with_reducible refine a_neI ?_ | with_reducible refine a_eqS ?_ | with_reducible refine a_neS ?_ | with_reducible refine a_test ?_ | with_reducible refine a_tB ?_ | with_reducible refine a_bl ?_ | with_reducible refine a_int ?_
  | with_reducible refine a_and ?_ | with_reducible refine a_or ?_ | with_reducible refine a_not ?_ | with_reducible refine a_andV ?_ | with_reducible refine a_orV ?_ | with_reducible refine a_notV ?_ | with_reducible refine a_ifE ?_ | with_reducible refine a_chain ?_ | with_reducible refine a_call ?_ | with_reducible refine a_cb ?_ | with_reducible refine a_star ?_
  | ((with_reducible refine a_nameX ?_); refine ⟨_, (by simp only [L2.wipe, L2.start, List.map_cons, List.map_nil, List.length_cons, List.length_nil, List.replicate_succ, List.replicate_zero, Nat.reduceSub, Nat.reduceAdd, Nat.zero_add, List.cons_append, List.nil_append, List.set_cons_zero, List.set_cons_succ]; exact rfl), ?_⟩) | with_reducible refine a_gcons ?_ | with_reducible refine a_gnil ?_ | with_reducible refine a_gsub ?_ | with_reducible refine a_par ?_ | ((with_reducible refine a_parX rfl ?_); refine ⟨_, (by simp only [L2.wipe, L2.start, List.map_cons, List.map_nil, List.length_cons, List.length_nil, List.replicate_succ, List.replicate_zero, Nat.reduceSub, Nat.reduceAdd, Nat.zero_add, List.cons_append, List.nil_append, List.set_cons_zero, List.set_cons_succ]; exact rfl), ?_⟩) | ((with_reducible refine a_augX ?_); refine ⟨_, rfl, ?_⟩) | with_reducible refine a_ipI ?_ | with_reducible refine a_tup ?_ | with_reducible refine a_lst ?_ | with_reducible refine a_sl ?_ | with_reducible refine a_sslX ?_
  | with_reducible refine a_tsl ?_ | with_reducible refine a_noPart ?_ | with_reducible refine a_part ?_ | with_reducible refine a_i1 ?_ | with_reducible refine a_i1b ?_ | with_reducible refine a_mx ?_ | with_reducible refine a_mn ?_ | with_reducible refine a_ab ?_ | with_reducible refine a_mat ?_ | with_reducible refine a_case ?_
  | ((with_reducible refine a_oneS ?_ ?_); omega) | ((with_reducible refine a_mask 1 ?_ ?_); decide) | ((with_reducible refine a_mask 3 ?_ ?_); decide) | ((with_reducible refine a_mask 6 ?_ ?_); decide) | ((with_reducible refine a_mask 9 ?_ ?_); decide) | ((with_reducible refine a_rI ?_ ?_); first | exact ⟨by decide, by decide⟩ | decide)
  | ((with_reducible refine a_shlK 12 ?_ ?_ ?_); rfl; exact shl_small (by omega) (by omega) (by decide)) | ((with_reducible refine a_shlK 9 ?_ ?_ ?_); rfl; exact shl_small (by omega) (by omega) (by decide)) | ((with_reducible refine a_shlK 6 ?_ ?_ ?_); rfl; exact shl_small (by omega) (by omega) (by decide)) | with_reducible refine a_kdGet ?_
  | with_reducible refine a_bm0 ?_ | with_reducible refine a_bm ?_ | with_reducible refine a_dnewT ?_ | with_reducible refine a_gsl ?_ | with_reducible refine a_mk ?_
  | with_reducible refine a_dget2 ?_ | with_reducible refine a_dnewK ?_ | with_reducible refine a_tli ?_ | with_reducible refine a_pair ?_ | with_reducible refine a_pair0 ?_
  | with_reducible refine a_lc ?_ | with_reducible refine a_itup ?_ | with_reducible refine a_ilst ?_ | with_reducible refine a_yes ?_ | with_reducible refine a_iitems ?_ | with_reducible refine a_dc ?_ | with_reducible refine a_isN0 ?_ | with_reducible refine a_notN0 ?_ | with_reducible refine a_izip ?_ | with_reducible refine a_dget ?_ | with_reducible refine a_propSl ?_ | with_reducible refine a_methSl ?_ | with_reducible refine a_for ?_ | with_reducible refine a_rng1 ?_ | with_reducible refine a_rng2 ?_
  | with_reducible refine iteT ?_ | with_reducible refine iteF ?_)
local macro_rules | `(tactic| walk_at "t") => `(tactic| refine ⟨Nat.le_of_ble_eq_true rfl, a_new ?_⟩)
local macro_rules | `(tactic| walk_at "w") => `(tactic| repeat walk_at "s")
local macro_rules | `(tactic| walk_at "t0") => `(tactic| refine ⟨Nat.le_of_ble_eq_true rfl, ?_⟩)
section
variable {P : Program} {w : World} {K : PySem.W.Frag} {mg : Str → Option Value} {base : Heap}
/-- v is a Plain in the state s -/
def IsP (K : PySem.W.Frag) (H : Hp) (c : Mc) (v : V) (s : Sx) : Prop := ∃ a dx rg, v = .ref a ∧ SlX.Slt H a (He.ga K "Plain") dx (plS (.ref c.sh) (.ref c.pr) (.int (s.pc : Int)) (.ref rg) (.ref c.me) (.int 0) (.bl false) (endV K s.bad) (.ref c.ou)) ∧ SqT K H rg (intV s.regs)
theorem IsP.same {H H' : Hp} {c : Mc} {v : V} {s : Sx} (S : Same H H') (h : IsP K H c v s) : IsP K H' c v s := by
  obtain ⟨a, dx, rg, e, h1, h2⟩ := h
  exact ⟨a, dx, rg, e, slt_same S h1, sqT_same S h2⟩
/-! ### fields_of_state, made_plain -/
theorem sc_fields_of_state : FnScope ["machine", "ahead"] ["machine"] (defScope (top 97)) := ⟨rfl, rfl, rfl, by decide +kernel, rfl, by decide +kernel, by decide +kernel⟩
abbrev sp_fields_of_state (K : PySem.W.Frag) : Sp := fun vs H Q _ => ∃ (v : V) (c : Mc) (s : Sx), vs = [v] ∧ IsP K H c v s ∧ ∀ v' H', Same H H' → IsT K H' c v' s → Q v' H'
theorem ok_fields_of_state (T : Txt w K mg base) : C8.Cal P w K mg base 1 "fields_of_state" (sp_fields_of_state K) [] := by
  refine cal_of T.f_fields_of_state T.m_fields_of_state sc_fields_of_state (fun vs H Q E h => ?_) (fun _ _ _ _ _ _ us hl => match us, hl with | [_], _ => rfl) fun cdv A outer s H vs Q E hr h => ?_
  · obtain ⟨_, _, _, rfl, _⟩ := h; rfl
  obtain ⟨v, c, s, rfl, q⟩ := h
  refine ⟨_, pss_cons (ps_set (i := 1) sc_fields_of_state.nd rfl (Or.inl rfl) (pe_tup (pa_cons (SlX.pe_sl (pv 0)) (pa_cons (SlX.pe_sl (pv 0)) (pa_cons (SlX.pe_sl (pv 0)) (pa_cons (SlX.pe_sl (pv 0)) (pa_cons (SlX.pe_sl (pv 0)) pa_nil)))))))
  (pss_one (ps_ret (pe_tup (StX.pa_star (pv 1) (pa_cons (SlX.pe_sl (pv 0)) (pa_cons (SlX.pe_sl (pv 0)) (pa_cons (SlX.pe_sl (pv 0)) (pa_cons (SlX.pe_sl (pv 0)) pa_nil)))))))), ?_⟩
  obtain ⟨⟨a, dx, rg, rfl, hs, hr0⟩, q⟩ := q
  walk_at "w"
  refine a_slot T.sc_Plain T.s_Plain_own_shape hs rfl ?_
  walk_at "w"
  refine a_slot T.sc_Plain T.s_Plain_own_program hs rfl ?_
  walk_at "w"
  refine a_slot T.sc_Plain T.s_Plain_own_pc hs rfl ?_
  walk_at "w"
  refine a_slot T.sc_Plain T.s_Plain_own_registers hs rfl ?_
  walk_at "w"
  refine a_slot T.sc_Plain T.s_Plain_own_memory hs rfl ?_
  walk_at "w"
  walk_at "t"
  intro p H1 n1 S1 e1
  have hs1 := slt_same S1 hs
  walk_at "w"
  refine a_starT (SqT.of e1) ?_
  walk_at "w"
  refine a_slot T.sc_Plain T.s_Plain_own_saved hs1 rfl ?_
  walk_at "w"
  refine a_slot T.sc_Plain T.s_Plain_own_allowed hs1 rfl ?_
  walk_at "w"
  refine a_slot T.sc_Plain T.s_Plain_own_ended hs1 rfl ?_
  walk_at "w"
  refine a_slot T.sc_Plain T.s_Plain_own_outputs hs1 rfl ?_
  walk_at "w"
  walk_at "t"
  intro p2 H2 n2 S2 e2
  exact q _ _ (S1.trans S2) ⟨p2, rg, rfl, e2, sqT_same (S1.trans S2) hr0⟩
theorem mk_Plain (T : Txt w K mg base) : C8.Mak P w K mg base 7 "Plain" (He.ga K "Plain") (sp_Plain_init K) [.int 0, .non, .non, .int 0, .bl false, .non, .ref (outsAt K)] := by
  obtain ⟨fd, F, D⟩ := fn_Plain_init T (P := P)
  obtain ⟨ds, d, b⟩ := pl_pos D
  exact ⟨_, fd, plPs, ds, T.mk_Plain, F, T.m_Plain, b, d⟩
theorem sc_made_plain : FnScope ["told"] ["told"] (defScope (top 98)) := ⟨rfl, rfl, rfl, by decide +kernel, rfl, by decide +kernel, by decide +kernel⟩
abbrev sp_made_plain (K : PySem.W.Frag) : Sp := fun vs H Q _ => ∃ (v : V) (c : Mc) (s : Sx), vs = [v] ∧ IsT K H c v s ∧ ∀ v' H', Same H H' → IsP K H' c v' s → Q v' H'
theorem ok_made_plain (T : Txt w K mg base) : C8.Cal P w K mg base 9 "made_plain" (sp_made_plain K) [] := by
  refine cal_of T.f_made_plain T.m_made_plain sc_made_plain (fun vs H Q E h => ?_) (fun _ _ _ _ _ _ us hl => match us, hl with | [_], _ => rfl) fun cdv A outer s H vs Q E hr h => ?_
  · obtain ⟨_, _, _, rfl, _⟩ := h; rfl
  obtain ⟨v, c, s, rfl, q⟩ := h
  refine ⟨_, pss_one (ps_ret (C8.pe_mk (mk_Plain T) hr (by omega) rfl (pa_cons (C8.pe_mk (mk_KnownFields T) hr (by omega) rfl (pa_cons (pv 0) pa_nil)) (pa_cons (pe_tup pa_nil) pa_nil)))), ?_⟩
  obtain ⟨⟨t, rg, rfl, ht, hr0⟩, q⟩ := q
  walk_at "w"
  intro x dx n1 n2 ne
  refine ⟨x, dx, _, rfl, upd_same, ne, fun H1 B1 s1 => ⟨rfl, ?_⟩⟩
  have S1 : Same H H1 := But2.fresh n1 n2 B1
  walk_at "w"
  walk_at "t"
  intro p H2 n3 S2 e2
  walk_at "w"
  intro y dy n4 n5 ne2
  have S02 := S1.trans S2
  have hx2 := slt_same S2 s1
  have old : Same H2 (upd (upd H2 dy (.own y)) y (.ins (He.ga K "Plain") dy [])) := fun b o e => by rw [upd_ne (ne_of_none e n4), upd_ne (ne_of_none e n5)]; exact e
  refine ⟨y, dy, _, _, _, _, _, _, _, _, _, rfl, upd_same, ne2, by rw [upd_ne ne2]; exact upd_same, .inl ⟨x, dx, t, _, _, _, _, _, _, _, _, _, rfl, slt_same old hx2, old _ _ (S02 _ _ ht), fun H3 B3 s3 => ⟨rfl, ?_⟩⟩⟩
  have S3 : Same H2 H3 := But2.fresh n4 n5 B3
  exact q _ _ (S02.trans S3) ⟨y, dy, rg, rfl, s3, sqT_same (S02.trans S3) hr0⟩
/-! ### behind_step -/
theorem sc_behind_step : FnScope ["told", "is_rung", "later"] ["told", "is_rung"] (defScope (top 99)) := ⟨rfl, rfl, rfl, by decide +kernel, rfl, by decide +kernel, by decide +kernel⟩
abbrev sp_behind_step (K : PySem.W.Frag) : Sp := fun vs H Q _ => ∃ (v : V) (c : Mc) (s : Sx) (i : Ins), vs = [v, .bl false] ∧ c.Fit ∧ McS K H c ∧ IsT K H c v s ∧ s.Ok c ∧ s.bad = false ∧ c.ins[s.pc]? = some i ∧ ∀ p v' H', Same H H' → IsT K H' c v' (stepS c s) → H' p = some (.tup [v', .bl false]) → Q (.ref p) H'
theorem ok_behind_step (T : Txt w K mg base) : C8.Cal P w K mg base 5 "behind_step" (sp_behind_step K) [] := by
  refine cal_of T.f_behind_step T.m_behind_step sc_behind_step (fun vs H Q E h => ?_) (fun _ _ _ _ _ _ us hl => match us, hl with | [_, _], _ => rfl) fun cdv A outer s H vs Q E hr h => ?_
  · obtain ⟨_, _, _, _, rfl, _⟩ := h; rfl
  obtain ⟨v, c, s, i, rfl, q⟩ := h
  refine ⟨_, pss_cons (ps_set (i := 2) sc_behind_step.nd rfl (Or.inl rfl) (C8.pe_c (ok_step_fields T) hr (by omega) rfl (pa_cons (pv 0) pa_nil)))
  (pss_cons (ps_if (PW.pt (pw_and (pt_val (pv 1)) (pw_and1 (pt_val pe_no))))
    (pss_one (ps_never))
    (pss_nil))
  (pss_one (ps_ret (pe_tup (pa_cons (pv 2) (pa_cons (pe_bl) pa_nil)))))), ?_⟩
  obtain ⟨hc, hM, hT, hs, hb, hi, q⟩ := q
  walk_at "w"
  refine ⟨v, c, s, i, rfl, hc, hM, hT, hs, hb, hi, fun v' H1 S1 hT1 => ?_⟩
  walk_at "w"
  walk_at "t"
  intro p H2 n2 S2 e2
  exact q p v' H2 (S1.trans S2) (hT1.same S2) e2
end
end K83
end
section
set_option maxRecDepth 100000
set_option maxHeartbeats 4000000
namespace K83
open PySem PySem.Spec PyProof.Rows L2
local macro_rules | `(tactic| walk_at "s") => `(tactic| first
  | with_reducible refine a_seq ?_ | ((with_reducible refine a_varX ?_); refine ⟨_, rfl, ?_⟩) | with_reducible refine a_c ?_ | with_reducible refine a_op ?_ | with_reducible refine a_rI0 ?_ | with_reducible refine a_cons ?_ | with_reducible refine a_nil ?_
  | with_reducible refine a_next ?_ | with_reducible refine a_ret ?_ | with_reducible refine a_retN ?_ | with_reducible refine a_drop ?_ | with_reducible refine a_if ?_ | with_reducible refine a_asg ?_ | with_reducible refine a_un ?_
  | with_reducible refine a_rU ?_ | with_reducible refine a_eqI ?_ | with_reducible refine a_neI ?_ | with_reducible refine a_eqS ?_ | with_reducible refine a_neS ?_ | with_reducible refine a_test ?_ | with_reducible refine a_tB ?_ | with_reducible refine a_bl ?_ | with_reducible refine a_int ?_
  | with_reducible refine a_and ?_ | with_reducible refine a_or ?_ | with_reducible refine a_not ?_ | with_reducible refine a_andV ?_ | with_reducible refine a_orV ?_ | with_reducible refine a_notV ?_ | with_reducible refine a_ifE ?_ | with_reducible refine a_chain ?_ | with_reducible refine a_call ?_ | with_reducible refine a_cb ?_ | with_reducible refine a_star ?_
  | ((with_reducible refine a_nameX ?_); refine ⟨_, (by simp only [L2.wipe, L2.start, List.map_cons, List.map_nil, List.length_cons, List.length_nil, List.replicate_succ, List.replicate_zero, Nat.reduceSub, Nat.reduceAdd, Nat.zero_add, List.cons_append, List.nil_append, List.set_cons_zero, List.set_cons_succ]; exact rfl), ?_⟩) | with_reducible refine a_gcons ?_ | with_reducible refine a_gnil ?_ | with_reducible refine a_gsub ?_ | with_reducible refine a_par ?_ | ((with_reducible refine a_parX rfl ?_); refine ⟨_, (by simp only [L2.wipe, L2.start, List.map_cons, List.map_nil, List.length_cons, List.length_nil, List.replicate_succ, List.replicate_zero, Nat.reduceSub, Nat.reduceAdd, Nat.zero_add, List.cons_append, List.nil_append, List.set_cons_zero, List.set_cons_succ]; exact rfl), ?_⟩) | ((with_reducible refine a_augX ?_); refine ⟨_, rfl, ?_⟩) | with_reducible refine a_ipI ?_ | with_reducible refine a_tup ?_ | with_reducible refine a_lst ?_ | with_reducible refine a_sl ?_ | with_reducible refine a_sslX ?_
  | with_reducible refine a_tsl ?_ | with_reducible refine a_noPart ?_ | with_reducible refine a_part ?_ | with_reducible refine a_i1 ?_ | with_reducible refine a_i1b ?_ | with_reducible refine a_mx ?_ | with_reducible refine a_mn ?_ | with_reducible refine a_ab ?_ | with_reducible refine a_mat ?_ | with_reducible refine a_case ?_
  | ((with_reducible refine a_oneS ?_ ?_); omega) | ((with_reducible refine a_mask 1 ?_ ?_); decide) | ((with_reducible refine a_mask 3 ?_ ?_); decide) | ((with_reducible refine a_mask 6 ?_ ?_); decide) | ((with_reducible refine a_mask 9 ?_ ?_); decide) | ((with_reducible refine a_rI ?_ ?_); first | exact ⟨by decide, by decide⟩ | decide)
  | ((with_reducible refine a_shlK 12 ?_ ?_ ?_); rfl; exact shl_small (by omega) (by omega) (by decide)) | ((with_reducible refine a_shlK 9 ?_ ?_ ?_); rfl; exact shl_small (by omega) (by omega) (by decide)) | ((with_reducible refine a_shlK 6 ?_ ?_ ?_); rfl; exact shl_small (by omega) (by omega) (by decide)) | with_reducible refine a_kdGet ?_
  | with_reducible refine a_bm0 ?_ | with_reducible refine a_bm ?_ | with_reducible refine a_dnewT ?_ | with_reducible refine a_gsl ?_ | with_reducible refine a_mk ?_
  | with_reducible refine a_dget2 ?_ | with_reducible refine a_dnewK ?_ | with_reducible refine a_tli ?_ | with_reducible refine a_pair ?_ | with_reducible refine a_pair0 ?_
  | with_reducible refine a_lc ?_ | with_reducible refine a_itup ?_ | with_reducible refine a_ilst ?_ | with_reducible refine a_yes ?_ | with_reducible refine a_iitems ?_ | with_reducible refine a_dc ?_ | with_reducible refine a_isN0 ?_ | with_reducible refine a_notN0 ?_ | with_reducible refine a_izip ?_ | with_reducible refine a_dget ?_ | with_reducible refine a_propSl ?_ | with_reducible refine a_methSl ?_ | with_reducible refine a_for ?_ | with_reducible refine a_rng1 ?_ | with_reducible refine a_rng2 ?_
  | with_reducible refine iteT ?_ | with_reducible refine iteF ?_)
local macro_rules | `(tactic| walk_at "t") => `(tactic| refine ⟨Nat.le_of_ble_eq_true rfl, a_new ?_⟩)
local macro_rules | `(tactic| walk_at "w") => `(tactic| repeat walk_at "s")
local macro_rules | `(tactic| walk_at "t0") => `(tactic| refine ⟨Nat.le_of_ble_eq_true rfl, ?_⟩)
/-- n steps, none behind a fault -/
def iterS (c : Mc) : Nat → Sx → Sx
  | 0, s => s
  | n + 1, s => if (iterS c n s).bad then iterS c n s else stepS c (iterS c n s)
section
variable {P : Program} {w : World} {K : PySem.W.Frag} {mg : Str → Option Value} {base : Heap}
/-! ### Plain.run -/
theorem sc_Plain_run : FnScope ["self", "steps", "bells", "told", "turn"] ["self", "steps", "bells"] (defScope (inClass (top 96) 13)) := ⟨rfl, rfl, rfl, by decide +kernel, rfl, by decide +kernel, by decide +kernel⟩
abbrev sp_Plain_run (K : PySem.W.Frag) : Sp := fun vs H Q _ => ∃ (v : V) (c : Mc) (s0 : Sx) (k : Nat) (bl : Addr), vs = [v, .int (k : Int), .ref bl] ∧ c.Fit ∧ McS K H c ∧ IsP K H c v s0 ∧ SqT K H bl [] ∧ k ≤ 3000 ∧
  (∀ j, j < k → (iterS c j s0).Ok c) ∧ (∀ j, j < k → (iterS c j s0).bad = false → ∃ i, c.ins[(iterS c j s0).pc]? = some i) ∧ ∀ v' H', Same H H' → IsP K H' c v' (iterS c k s0) → Q v' H'
theorem fn_run (T : Txt w K mg base) : ∃ fd, FnOk P w K mg base C8.CX0 10 (He.ma K (He.ga K "Plain") "run") fd ["self", "steps", "bells"] (sp_Plain_run K) ∧ ∃ ds, Vals [.ref (He.dflAt ("Plain", some "run") 0 K)] ds ∧ L2.Binds K fd ["self", "steps", "bells"] ds := by
  obtain ⟨fd, F⟩ := T.f_Plain_run
  refine ⟨fd, F.ok sc_Plain_run (fun vs H Q E h => ?_) fun cdv A outer s H vs Q E hr h => ?_, ?_⟩
  · obtain ⟨_, _, _, _, _, rfl, _⟩ := h; rfl
  · suffices hh : ∃ t, PSs (cxOf C8.CX0 P w K mg base ["self", "steps", "bells", "told", "turn"] "Plain.run" (defScope (inClass (top 96) 13)) (He.ma K (He.ga K "Plain") "run") cdv A outer s H E).nox (defBody (inClass (top 96) 13)) t ∧
        t ⟨fun _ H' => Q .non H', Q, fun _ _ => False, fun _ _ => False⟩ (start ["self", "steps", "bells", "told", "turn"] vs) H by
      obtain ⟨t, a, b⟩ := hh
      exact ⟨t, a.nox, b⟩
    obtain ⟨v, c, s0, k, bl, rfl, hc, hM, hP, hbl, hk, hok, hin, q⟩ := h
    refine ⟨_, pss_cons (ps_expr (C8.pe_c (ok_require_steps T) hr (by omega) rfl (pa_cons (pv 1) (pa_cons (pv 2) pa_nil))))
  (pss_cons (ps_set (i := 3) sc_Plain_run.nd rfl (Or.inl rfl) (C8.pe_c (ok_fields_of_state T) hr (by omega) rfl (pa_cons (pv 0) pa_nil)))
  (pss_cons (ps_for PassesOwn.never rfl (pi_range1 (by rfl) T.n_range (pa_cons (pv 1) pa_nil)) (pg_name (i := 4) sc_Plain_run.nd rfl (Or.inl rfl))
    (pss_one (ps_if (pt_cmpR op_isN0 (pe_ix ix_tup (pv 3) (pe_int) (fun _ _ => rfl)) (pe_non) (nomark _))
        (pss_one (ps_set (i := 3) sc_Plain_run.nd rfl (Or.inl rfl) (pe_ix ix_tup (C8.pe_c (ok_behind_step T) hr (by omega) rfl (pa_cons (pv 3) (pa_cons (pe_cmpR op_in_seq (pe_op op_add (pv 4) (pe_int)) (pv 2) rfl) pa_nil))) (pe_int) (fun _ _ => rfl))))
        (pss_nil))))
  (pss_one (ps_ret (C8.pe_c (ok_made_plain T) hr (by omega) rfl (pa_cons (pv 3) pa_nil)))))), ?_⟩
    walk_at "w"
    refine ⟨k, bl, rfl, hbl, hk, fun H1 S1 => ?_⟩
    walk_at "w"
    refine ⟨v, c, s0, rfl, hP.same S1, fun v2 H2 S2 hT2 => ?_⟩
    have S02 := S1.trans S2
    walk_at "w"
    refine ⟨_, rfl, by omega, by omega, ?_⟩
    rw [Int.toNat_natCast]
    refine for_up (fun i σ' H' => ∃ v3 o, σ' = [some v, some (.int (k : Int)), some (.ref bl), some v3, o] ∧ Same H H' ∧ IsT K H' c v3 (iterS c i s0)) ⟨v2, none, rfl, S02, hT2⟩ (fun i σ' H3 hi hW => ?_) fun σ' H3 hW => ?_
    · obtain ⟨v3, o, rfl, S3, hT3⟩ := hW
      have hT3' := hT3
      obtain ⟨t, rg, rfl, ht, hrg⟩ := hT3
      walk_at "w"
      refine a_ixT (SqT.of ht) (at_of (j := 7) rfl rfl) ?_
      walk_at "w"
      cases hb : (iterS c i s0).bad with
      | true =>
        refine d_f (by unfold endV; rw [if_pos rfl]; exact fun z => nomatch z) ?_
        walk_at "w"
        refine ⟨_, _, rfl, S3, ?_⟩
        have e : iterS c (i + 1) s0 = iterS c i s0 := by show (if (iterS c i s0).bad = true then _ else _) = _; rw [hb]; rfl
        rw [e]
        exact hT3'
      | false =>
        refine d_t (by unfold endV; rw [if_neg Bool.false_ne_true]) ?_
        walk_at "w"
        refine a_inT (sqT_same S3 hbl) rfl rfl ?_
        walk_at "w"
        obtain ⟨ins, hins⟩ := hin i hi hb
        refine ⟨.ref t, c, iterS c i s0, ins, rfl, hc, hM.same S3, hT3', hok i hi, hb, hins, fun p v' H4 S4 hT4 e4 => ?_⟩
        walk_at "w"
        refine a_ixT (SqT.of e4) (at_of (j := 0) rfl rfl) ?_
        walk_at "w"
        refine ⟨v', _, rfl, S3.trans S4, ?_⟩
        have e : iterS c (i + 1) s0 = stepS c (iterS c i s0) := by show (if (iterS c i s0).bad = true then _ else _) = _; rw [hb]; rfl
        rw [e]
        exact hT4
    · obtain ⟨v3, o, rfl, S3, hT3⟩ := hW
      walk_at "w"
      refine ⟨v3, c, _, rfl, hT3, fun v' H4 S4 hP4 => ?_⟩
      exact q v' H4 (S3.trans S4) hP4
  · obtain ⟨ds, d, b⟩ := F.binds1 (ps := ["self", "steps", "bells"]) 2 0 (List.cons_ne_nil _ _) rfl fun Tt kV doc pm an cdv ct us its h1 h2 => by
      match us, h1, its, h2 with
      | [u1, u2], _, [i1], _ => exact ⟨_, rfl, rfl⟩
    exact ⟨ds, d, b⟩
/-! ### the properties -/
theorem sc_Plain_registers : FnScope ["self"] ["self"] (defScope (inClass (top 96) 5)) := ⟨rfl, rfl, rfl, by decide +kernel, rfl, by decide +kernel, by decide +kernel⟩
theorem sc_Plain_ended : FnScope ["self"] ["self"] (defScope (inClass (top 96) 9)) := ⟨rfl, rfl, rfl, by decide +kernel, rfl, by decide +kernel, by decide +kernel⟩
theorem sc_Plain_outputs : FnScope ["self"] ["self"] (defScope (inClass (top 96) 10)) := ⟨rfl, rfl, rfl, by decide +kernel, rfl, by decide +kernel, by decide +kernel⟩
theorem sc_Plain_allowed : FnScope ["self"] ["self"] (defScope (inClass (top 96) 8)) := ⟨rfl, rfl, rfl, by decide +kernel, rfl, by decide +kernel, by decide +kernel⟩
/-- a getter gives the slot i -/
abbrev sp_get (K : PySem.W.Frag) (i : Nat) : Sp := fun vs H Q _ => ∃ (a dx : Addr) (ls : List (Option V)) (y : V), vs = [.ref a] ∧ SlX.Slt H a (He.ga K "Plain") dx ls ∧ ls[i]? = some (some y) ∧ Q y H
theorem get_of {f : Str} {st : Stmt} {g : Addr} {i : Nat} {q : Str} (F : ∃ fd, FunD K f q (defArgs st) (defBody st) (defScope st) [] [] g fd) (S : FnScope ["self"] ["self"] (defScope st))
    (hb : ∀ (kV doc pm : Value) (an : Option Addr) (cdv ct : Value) (us : List Value), us.length = 1 → bindArgs (PySem.W.fnOf f q (defArgs st) (defBody st) (defScope st) .none kV doc pm an cdv ct) ⟨us, []⟩ = pure (([("self" : Str)] : List Str).zip us)) {sl : Str} {p : Addr} (c : SlX.SCls K (He.ga K "Plain")) (s1 : SlX.Slot1 K (He.ga K "Plain") sl p i)
    (hbody : ∀ (cdv : Value) (A : Around) (outer : List Env) (s : Shared) (H : Hp) (E : XK), PSs (cxOf C8.CX0 P w K mg base ["self"] q (defScope st) g cdv A outer s H E).nox (defBody st) (tRet (SlX.tSl K (tVar 0) sl))) : FnR P w K mg base C8.CX0 1 g (sp_get K i) := by
  obtain ⟨fd, F, b⟩ := fnr_of (P := P) (w := w) (mg := mg) (base := base) (k := 0) (sp := sp_get K i) F S (fun vs H Q E h => by obtain ⟨_, _, _, _, rfl, _⟩ := h; rfl) hb fun cdv A outer s H vs Q E hr h => ⟨_, hbody cdv A outer s H E, by
    obtain ⟨a, dx, ls, y, rfl, h1, h2, q⟩ := h
    walk_at "w"
    exact a_slot c s1 h1 h2 q⟩
  have r := F.raw b .nil
  exact r.imp fun vs H Q E h => by rw [List.append_nil]; exact h
theorem get_registers (T : Txt w K mg base) : FnR P w K mg base C8.CX0 1 (gtOf "registers" K) (sp_get K 6) :=
  get_of T.g_registers sc_Plain_registers (fun _ _ _ _ _ _ us hl => match us, hl with | [_], _ => rfl) T.sc_Plain T.s_Plain_own_registers fun cdv A outer s H E => pss_one (ps_ret (SlX.pe_sl (pv 0)))
theorem get_ended (T : Txt w K mg base) : FnR P w K mg base C8.CX0 1 (gtOf "ended" K) (sp_get K 1) :=
  get_of T.g_ended sc_Plain_ended (fun _ _ _ _ _ _ us hl => match us, hl with | [_], _ => rfl) T.sc_Plain T.s_Plain_own_ended fun cdv A outer s H E => pss_one (ps_ret (SlX.pe_sl (pv 0)))
theorem get_outputs (T : Txt w K mg base) : FnR P w K mg base C8.CX0 1 (gtOf "outputs" K) (sp_get K 3) :=
  get_of T.g_outputs sc_Plain_outputs (fun _ _ _ _ _ _ us hl => match us, hl with | [_], _ => rfl) T.sc_Plain T.s_Plain_own_outputs fun cdv A outer s H E => pss_one (ps_ret (SlX.pe_sl (pv 0)))
theorem get_allowed (T : Txt w K mg base) : FnR P w K mg base C8.CX0 1 (gtOf "allowed" K) (sp_get K 0) :=
  get_of T.g_allowed sc_Plain_allowed (fun _ _ _ _ _ _ us hl => match us, hl with | [_], _ => rfl) T.sc_Plain T.s_Plain_own_allowed fun cdv A outer s H E => pss_one (ps_ret (SlX.pe_sl (pv 0)))
end
end K83
end
section
set_option maxRecDepth 100000
set_option maxHeartbeats 4000000
namespace K83
open PySem PySem.Spec PyProof.Rows L2
local macro_rules | `(tactic| walk_at "s") => `(tactic| first
  | with_reducible refine a_seq ?_ | ((with_reducible refine a_varX ?_); refine ⟨_, rfl, ?_⟩) | with_reducible refine a_c ?_ | with_reducible refine a_op ?_ | with_reducible refine a_rI0 ?_ | with_reducible refine a_cons ?_ | with_reducible refine a_nil ?_
  | with_reducible refine a_next ?_ | with_reducible refine a_ret ?_ | with_reducible refine a_retN ?_ | with_reducible refine a_drop ?_ | with_reducible refine a_if ?_ | with_reducible refine a_asg ?_ | with_reducible refine a_un ?_
  | with_reducible refine a_rU ?_ | with_reducible refine a_eqI ?_ | with_reducible refine a_neI ?_ | with_reducible refine a_eqS ?_ | with_reducible refine a_neS ?_ | with_reducible refine a_test ?_ | with_reducible refine a_tB ?_ | with_reducible refine a_bl ?_ | with_reducible refine a_int ?_
  | with_reducible refine a_and ?_ | with_reducible refine a_or ?_ | with_reducible refine a_not ?_ | with_reducible refine a_andV ?_ | with_reducible refine a_orV ?_ | with_reducible refine a_notV ?_ | with_reducible refine a_ifE ?_ | with_reducible refine a_chain ?_ | with_reducible refine a_call ?_ | with_reducible refine a_cb ?_ | with_reducible refine a_star ?_
  | ((with_reducible refine a_nameX ?_); refine ⟨_, (by simp only [L2.wipe, L2.start, List.map_cons, List.map_nil, List.length_cons, List.length_nil, List.replicate_succ, List.replicate_zero, Nat.reduceSub, Nat.reduceAdd, Nat.zero_add, List.cons_append, List.nil_append, List.set_cons_zero, List.set_cons_succ]; exact rfl), ?_⟩) | with_reducible refine a_gcons ?_ | with_reducible refine a_gnil ?_ | with_reducible refine a_gsub ?_ | with_reducible refine a_par ?_ | ((with_reducible refine a_parX rfl ?_); refine ⟨_, (by simp only [L2.wipe, L2.start, List.map_cons, List.map_nil, List.length_cons, List.length_nil, List.replicate_succ, List.replicate_zero, Nat.reduceSub, Nat.reduceAdd, Nat.zero_add, List.cons_append, List.nil_append, List.set_cons_zero, List.set_cons_succ]; exact rfl), ?_⟩) | ((with_reducible refine a_augX ?_); refine ⟨_, rfl, ?_⟩) | with_reducible refine a_ipI ?_ | with_reducible refine a_tup ?_ | with_reducible refine a_lst ?_ | with_reducible refine a_sl ?_ | with_reducible refine a_sslX ?_
  | with_reducible refine a_tsl ?_ | with_reducible refine a_noPart ?_ | with_reducible refine a_part ?_ | with_reducible refine a_i1 ?_ | with_reducible refine a_i1b ?_ | with_reducible refine a_mx ?_ | with_reducible refine a_mn ?_ | with_reducible refine a_ab ?_ | with_reducible refine a_mat ?_ | with_reducible refine a_case ?_
  | ((with_reducible refine a_oneS ?_ ?_); omega) | ((with_reducible refine a_mask 1 ?_ ?_); decide) | ((with_reducible refine a_mask 3 ?_ ?_); decide) | ((with_reducible refine a_mask 6 ?_ ?_); decide) | ((with_reducible refine a_mask 9 ?_ ?_); decide) | ((with_reducible refine a_rI ?_ ?_); first | exact ⟨by decide, by decide⟩ | decide)
  | ((with_reducible refine a_shlK 12 ?_ ?_ ?_); rfl; exact shl_small (by omega) (by omega) (by decide)) | ((with_reducible refine a_shlK 9 ?_ ?_ ?_); rfl; exact shl_small (by omega) (by omega) (by decide)) | ((with_reducible refine a_shlK 6 ?_ ?_ ?_); rfl; exact shl_small (by omega) (by omega) (by decide)) | with_reducible refine a_kdGet ?_
  | with_reducible refine a_bm0 ?_ | with_reducible refine a_bm ?_ | with_reducible refine a_dnewT ?_ | with_reducible refine a_gsl ?_ | with_reducible refine a_mk ?_
  | with_reducible refine a_dget2 ?_ | with_reducible refine a_dnewK ?_ | with_reducible refine a_tli ?_ | with_reducible refine a_pair ?_ | with_reducible refine a_pair0 ?_
  | with_reducible refine a_lc ?_ | with_reducible refine a_itup ?_ | with_reducible refine a_ilst ?_ | with_reducible refine a_yes ?_ | with_reducible refine a_iitems ?_ | with_reducible refine a_dc ?_ | with_reducible refine a_isN0 ?_ | with_reducible refine a_notN0 ?_ | with_reducible refine a_izip ?_ | with_reducible refine a_dget ?_ | with_reducible refine a_propSl ?_ | with_reducible refine a_methSl ?_ | with_reducible refine a_for ?_ | with_reducible refine a_rng1 ?_ | with_reducible refine a_rng2 ?_
  | with_reducible refine iteT ?_ | with_reducible refine iteF ?_)
local macro_rules | `(tactic| walk_at "t") => `(tactic| refine ⟨Nat.le_of_ble_eq_true rfl, a_new ?_⟩)
local macro_rules | `(tactic| walk_at "w") => `(tactic| repeat walk_at "s")
local macro_rules | `(tactic| walk_at "t0") => `(tactic| refine ⟨Nat.le_of_ble_eq_true rfl, ?_⟩)
/-- the law's shape: the pair of width and registers -/
def IsL (H : Hp) (v : V) (m R : Nat) : Prop := ∃ a, v = .ref a ∧ H a = some (.tup [.int (m : Int), .int (R : Int)])
theorem IsL.same {H H' : Hp} {v : V} {m R : Nat} (S : Same H H') (h : IsL H v m R) : IsL H' v m R := by
  obtain ⟨a, e, q⟩ := h
  exact ⟨a, e, S _ _ q⟩
def optV : Option Int → V
  | some x => .int x
  | none => .non
section
variable {P : Program} {w : World} {K : PySem.W.Frag} {mg : Str → Option Value} {base : Heap}
/-! ### the law's own arithmetic -/
theorem sc_law_two_to : FnScope ["_law_bits", "_law_found", "_law_turn"] ["_law_bits"] (defScope (top 105)) := ⟨rfl, rfl, rfl, by decide +kernel, rfl, by decide +kernel, by decide +kernel⟩
abbrev sp_law_two_to : Sp := fun vs H Q _ => ∃ b : Nat, vs = [.int (b : Int)] ∧ b ≤ 16 ∧ ∀ H', Same H H' → Q (.int (2 ^ b)) H'
theorem ok_law_two_to (T : Txt w K mg base) : C8.Cal P w K mg base 1 "_law_two_to" sp_law_two_to [] := by
  refine cal_of T.f_law_two_to T.m_law_two_to sc_law_two_to (fun vs H Q E h => ?_) (fun _ _ _ _ _ _ us hl => match us, hl with | [_], _ => rfl) fun cdv A outer s H vs Q E hr h => ?_
  · obtain ⟨_, rfl, _⟩ := h; rfl
  obtain ⟨b, rfl, q⟩ := h
  refine ⟨_, pss_cons (ps_set (i := 1) sc_law_two_to.nd rfl (Or.inl rfl) (pe_int))
  (pss_cons (ps_for PassesOwn.never rfl (pi_range1 (by rfl) T.n_range (pa_cons (pv 0) pa_nil)) (pg_name (i := 2) sc_law_two_to.nd rfl (Or.inl rfl))
    (pss_one (ps_set (i := 1) sc_law_two_to.nd rfl (Or.inl rfl) (pe_op op_mul (pe_int) (pv 1)))))
  (pss_one (ps_ret (pv 1)))), ?_⟩
  obtain ⟨hb, q⟩ := q
  walk_at "w"
  refine ⟨_, rfl, by omega, by omega, ?_⟩
  rw [Int.toNat_natCast]
  refine for_up (fun i σ' H' => ∃ o, σ' = [some (.int (b : Int)), some (.int (2 ^ i)), o] ∧ Same H H') ⟨none, rfl, Same.refl _⟩ (fun i σ' H' hi hW => ?_) fun σ' H' hW => ?_
  · obtain ⟨o, rfl, S⟩ := hW
    walk_at "w"
    refine a_rI (.inl ⟨by decide, by decide⟩) ?_
    walk_at "w"
    exact ⟨_, by rw [Int.pow_succ, Int.mul_comm], S⟩
  · obtain ⟨o, rfl, S⟩ := hW
    walk_at "w"
    exact q _ S
theorem sc_law_signed : FnScope ["_law_width", "_law_word", "_law_size"] ["_law_width", "_law_word"] (defScope (top 106)) := ⟨rfl, rfl, rfl, by decide +kernel, rfl, by decide +kernel, by decide +kernel⟩
abbrev sp_law_signed : Sp := fun vs H Q _ => ∃ (m : Nat) (x : Int), vs = [.int (m : Int), .int x] ∧ m ≤ 16 ∧ ∀ H', Same H H' → Q (.int (sg m x)) H'
theorem ok_law_signed (T : Txt w K mg base) : C8.Cal P w K mg base 2 "_law_signed" sp_law_signed [] := by
  refine cal_of T.f_law_signed T.m_law_signed sc_law_signed (fun vs H Q E h => ?_) (fun _ _ _ _ _ _ us hl => match us, hl with | [_, _], _ => rfl) fun cdv A outer s H vs Q E hr h => ?_
  · obtain ⟨_, _, rfl, _⟩ := h; rfl
  obtain ⟨m, x, rfl, q⟩ := h
  refine ⟨_, pss_cons (ps_set (i := 2) sc_law_signed.nd rfl (Or.inl rfl) (C8.pe_c (ok_law_two_to T) hr (by omega) rfl (pa_cons (pv 0) pa_nil)))
  (pss_one (ps_ret (pe_ifExp (pt_cmpR op_ge (pe_op op_mul (pe_int) (pv 1)) (pv 2) (nomark _)) (pe_op op_sub (pv 1) (pv 2)) (pv 1)))), ?_⟩
  obtain ⟨hm, q⟩ := q
  walk_at "w"
  refine ⟨m, rfl, hm, fun H1 S1 => ?_⟩
  walk_at "w"
  refine a_rI (.inl ⟨by decide, by decide⟩) ?_
  walk_at "w"
  refine d_ite (fun h => ?_) fun h => ?_
  · walk_at "w"
    rw [show x - 2 ^ m = sg m x from (if_pos h).symm]
    exact q _ S1
  · walk_at "w"
    rw [show x = sg m x from (if_neg h).symm]
    exact q _ S1
theorem sc_law_fields : FnScope ["_law_word"] ["_law_word"] (defScope (top 107)) := ⟨rfl, rfl, rfl, by decide +kernel, rfl, by decide +kernel, by decide +kernel⟩
abbrev sp_law_fields : Sp := fun vs H Q _ => ∃ x : Int, vs = [.int x] ∧ ∀ p H', H p = none → Same H H' → H' p = some (.tup [.int (x / 4096), .int (x / 512 % 8), .int (x / 64 % 8), .int (x % 64)]) → Q (.ref p) H'
theorem ok_law_fields (T : Txt w K mg base) : C8.Cal P w K mg base 1 "_law_fields" sp_law_fields [] := by
  refine cal_of T.f_law_fields T.m_law_fields sc_law_fields (fun vs H Q E h => ?_) (fun _ _ _ _ _ _ us hl => match us, hl with | [_], _ => rfl) fun cdv A outer s H vs Q E hr h => ?_
  · obtain ⟨_, rfl, _⟩ := h; rfl
  obtain ⟨x, rfl, q⟩ := h
  refine ⟨_, pss_one (ps_ret (pe_tup (pa_cons (pe_op op_fdiv (pv 0) (pe_int)) (pa_cons (pe_op op_mod (pe_op op_fdiv (pv 0) (pe_int)) (pe_int)) (pa_cons (pe_op op_mod (pe_op op_fdiv (pv 0) (pe_int)) (pe_int)) (pa_cons (pe_op op_mod (pv 0) (pe_int)) pa_nil)))))), ?_⟩
  walk_at "w"
  walk_at "t"
  intro p H1 n1 S1 e1
  exact q p H1 n1 S1 e1
theorem sc_law_word_at : FnScope ["_law_program", "_law_place"] ["_law_program", "_law_place"] (defScope (top 108)) := ⟨rfl, rfl, rfl, by decide +kernel, rfl, by decide +kernel, by decide +kernel⟩
abbrev sp_law_word_at (K : PySem.W.Frag) : Sp := fun vs H Q _ => ∃ (a : Addr) (i : Nat) (xs : List Int) (y : Int), vs = [.ref a, .int (i : Int)] ∧ SqT K H a (xs.map V.int) ∧ xs[i]? = some y ∧ ∀ H', Same H H' → Q (.int y) H'
theorem ok_law_word_at (T : Txt w K mg base) : C8.Cal P w K mg base 1 "_law_word_at" (sp_law_word_at K) [] := by
  refine cal_of T.f_law_word_at T.m_law_word_at sc_law_word_at (fun vs H Q E h => ?_) (fun _ _ _ _ _ _ us hl => match us, hl with | [_, _], _ => rfl) fun cdv A outer s H vs Q E hr h => ?_
  · obtain ⟨_, _, _, _, rfl, _⟩ := h; rfl
  obtain ⟨a, i, xs, y, rfl, q⟩ := h
  refine ⟨_, pss_one (ps_ret (pe_ifExp (pt_cmpR op_lt (pv 1) (pe_callB call_lenS (by rfl) T.n_len (by decide +kernel) (pa_cons (pv 0) pa_nil)) (nomark _)) (pe_ix ix_tup (pv 0) (pv 1) (fun _ _ => rfl)) (pe_int))), ?_⟩
  obtain ⟨ha, hi, q⟩ := q
  walk_at "w"
  refine a_lenT ha ?_
  walk_at "w"
  refine d_t (by rw [List.length_map]; exact Int.ofNat_lt.mpr (lt_of_get hi)) ?_
  walk_at "w"
  refine a_ixT ha (at_of rfl (at_map hi)) ?_
  exact q _ (Same.refl _)
theorem sc_law_reckoned : FnScope ["_law_shape", "_law_op", "_law_one", "_law_two", "_law_size", "_law_many"] ["_law_shape", "_law_op", "_law_one", "_law_two"] (defScope (top 111)) := ⟨rfl, rfl, rfl, by decide +kernel, rfl, by decide +kernel, by decide +kernel⟩
abbrev sp_law_reckoned : Sp := fun vs H Q _ => ∃ (v : V) (m R j : Nat) (a b : Int), vs = [v, .int (j : Int), .int a, .int b] ∧ IsL H v m R ∧ (4 ≤ m ∧ m ≤ 16) ∧ j < 8 ∧ Wd m a ∧ Wd m b ∧ ∀ H', Same H H' → Q (.int (rk m j a b)) H'
theorem ok_law_reckoned (T : Txt w K mg base) : C8.Cal P w K mg base 3 "_law_reckoned" sp_law_reckoned [] := by
  refine cal_of T.f_law_reckoned T.m_law_reckoned sc_law_reckoned (fun vs H Q E h => ?_) (fun _ _ _ _ _ _ us hl => match us, hl with | [_, _, _, _], _ => rfl) fun cdv A outer s H vs Q E hr h => ?_
  · obtain ⟨_, _, _, _, _, _, rfl, _⟩ := h; rfl
  obtain ⟨v, m, R, j, a, b, rfl, q⟩ := h
  refine ⟨_, pss_cons (ps_set (i := 4) sc_law_reckoned.nd rfl (Or.inl rfl) (C8.pe_c (ok_law_two_to T) hr (by omega) rfl (pa_cons (pe_ix ix_tup (pv 0) (pe_int) (fun _ _ => rfl)) pa_nil)))
  (pss_cons (ps_if (pt_cmpR op_lt (pv 1) (pe_int) (nomark _))
    (pss_one (ps_ret (pe_op op_mod (pe_ifExp (pt_cmpR op_eq (pv 1) (pe_int) (nomark _)) (pe_op op_add (pv 2) (pv 3)) (pe_op op_sub (pv 2) (pv 3))) (pv 4))))
    (pss_nil))
  (pss_cons (ps_if (pt_cmpR op_lt (pv 1) (pe_int) (nomark _))
    (pss_one (ps_ret (pe_ifExp (pt_cmpR op_eq (pv 1) (pe_int) (nomark _)) (pe_op op_and (pv 2) (pv 3)) (pe_ifExp (pt_cmpR op_eq (pv 1) (pe_int) (nomark _)) (pe_op op_or (pv 2) (pv 3)) (pe_op op_xor (pv 2) (pv 3))))))
    (pss_nil))
  (pss_cons (ps_if (pt_cmpR op_eq (pv 1) (pe_int) (nomark _))
    (pss_one (ps_ret (pe_callTy call_i1 (by rfl) T.n_int (by decide +kernel) (pa_cons (pe_cmpR op_lt (C8.pe_c (ok_law_signed T) hr (by omega) rfl (pa_cons (pe_ix ix_tup (pv 0) (pe_int) (fun _ _ => rfl)) (pa_cons (pv 2) pa_nil))) (C8.pe_c (ok_law_signed T) hr (by omega) rfl (pa_cons (pe_ix ix_tup (pv 0) (pe_int) (fun _ _ => rfl)) (pa_cons (pv 3) pa_nil))) (nomark _)) pa_nil))))
    (pss_nil))
  (pss_cons (ps_set (i := 5) sc_law_reckoned.nd rfl (Or.inl rfl) (C8.pe_c (ok_law_two_to T) hr (by omega) rfl (pa_cons (pe_op op_mod (pv 3) (pe_int)) pa_nil)))
  (pss_one (ps_ret (pe_ifExp (pt_cmpR op_eq (pv 1) (pe_int) (nomark _)) (pe_op op_mod (pe_op op_mul (pv 2) (pv 5)) (pv 4)) (pe_op op_fdiv (pv 2) (pv 5))))))))), ?_⟩
  obtain ⟨⟨sa, rfl, hs⟩, hm, hj, ha, hb, q⟩ := q
  have ha' := wd_lt hm.2 ha
  have hpow : (0 : Int) < 2 ^ m := two_pos m
  walk_at "w"
  refine a_ixT (SqT.of hs) (at_of (j := 0) rfl rfl) ?_
  walk_at "w"
  refine ⟨m, rfl, hm.2, fun H1 S1 => ?_⟩
  have q0 := q _ S1
  walk_at "w"
  refine d_ite (fun h2 => ?_) fun h2 => ?_
  · walk_at "w"
    refine d_ite (fun h0 => ?_) fun h0 => ?_
    · obtain rfl : j = 0 := by omega
      walk_at "w"
      refine a_rI hpow ?_
      exact q0
    · obtain rfl : j = 1 := by omega
      walk_at "w"
      refine a_rI hpow ?_
      exact q0
  walk_at "w"
  refine d_ite (fun h5 => ?_) fun h5 => ?_
  · walk_at "w"
    refine d_ite (fun h0 => ?_) fun h0 => ?_
    · obtain rfl : j = 2 := by omega
      walk_at "w"
      exact q0
    walk_at "w"
    refine d_ite (fun h0 => ?_) fun h0 => ?_
    · obtain rfl : j = 3 := by omega
      walk_at "w"
      exact q0
    · obtain rfl : j = 4 := by omega
      walk_at "w"
      exact q0
  walk_at "w"
  refine d_ite (fun h6 => ?_) fun h6 => ?_
  · obtain rfl : j = 5 := by omega
    walk_at "w"
    refine a_ixT (SqT.of (via S1 hs)) (at_of (j := 0) rfl rfl) ?_
    walk_at "w"
    refine ⟨m, a, rfl, hm.2, fun H2 S2 => ?_⟩
    walk_at "w"
    refine a_ixT (SqT.of (via S2 (via S1 hs))) (at_of (j := 0) rfl rfl) ?_
    walk_at "w"
    refine ⟨m, b, rfl, hm.2, fun H3 S3 => ?_⟩
    walk_at "w"
    have e : (if decide (sg m a < sg m b) = true then (1 : Int) else 0) = rk m 5 a b := by
      show _ = (if sg m a < sg m b then (1 : Int) else 0)
      by_cases h : sg m a < sg m b
      · rw [decide_eq_true h, if_pos rfl, if_pos h]
      · rw [decide_eq_false h, if_neg Bool.false_ne_true, if_neg h]
    show Q (.int (if decide (sg m a < sg m b) = true then (1 : Int) else 0)) H3
    rw [e]
    exact q _ ((S1.trans S2).trans S3)
  have hb16 := Int.emod_nonneg b (show (16 : Int) ≠ 0 by decide)
  have hb17 := Int.emod_lt_of_pos b (show (0 : Int) < 16 by decide)
  obtain ⟨k, hk⟩ : ∃ k : Nat, b % 16 = (k : Int) := ⟨(b % 16).toNat, by omega⟩
  have hp2 : (2 : Int) ^ k < 1073741824 := by
    have h1 : (2 : Nat) ^ k ≤ 2 ^ 16 := Nat.pow_le_pow_right (by decide) (by omega)
    have h2 : ((2 ^ k : Nat) : Int) ≤ ((2 ^ 16 : Nat) : Int) := Int.ofNat_le.mpr h1
    rw [castpow] at h2
    exact Int.lt_of_le_of_lt h2 (by decide)
  walk_at "w"
  rw [hk]
  refine ⟨k, rfl, by omega, fun H2 S2 => ?_⟩
  have q2 := q _ (S1.trans S2)
  walk_at "w"
  refine d_ite (fun h0 => ?_) fun h0 => ?_
  · obtain rfl : j = 6 := by omega
    walk_at "w"
    refine a_rI (.inl ⟨by omega, by omega⟩) ?_
    walk_at "w"
    refine a_rI hpow ?_
    rw [show a * 2 ^ k % 2 ^ m = rk m 6 a b by show _ = (a * 2 ^ (b % 16).toNat) % 2 ^ m; rw [hk, Int.toNat_natCast]]
    exact q2
  · obtain rfl : j = 7 := by omega
    walk_at "w"
    refine a_rI ⟨two_pos k, hp2⟩ ?_
    rw [show a / 2 ^ k = rk m 7 a b by show _ = a / 2 ^ (b % 16).toNat; rw [hk, Int.toNat_natCast]]
    exact q2
end
end K83
end
section
set_option maxRecDepth 100000
set_option maxHeartbeats 4000000
namespace K83
open PySem PySem.Spec PyProof.Rows L2
local macro_rules | `(tactic| walk_at "s") => `(tactic| first
  | with_reducible refine a_seq ?_ | ((with_reducible refine a_varX ?_); refine ⟨_, rfl, ?_⟩) | with_reducible refine a_c ?_ | with_reducible refine a_op ?_ | with_reducible refine a_rI0 ?_ | with_reducible refine a_cons ?_ | with_reducible refine a_nil ?_
  | with_reducible refine a_next ?_ | with_reducible refine a_ret ?_ | with_reducible refine a_retN ?_ | with_reducible refine a_drop ?_ | with_reducible refine a_if ?_ | with_reducible refine a_asg ?_ | with_reducible refine a_un ?_
  | with_reducible refine a_rU ?_ | with_reducible refine a_eqI ?_ | with_reducible refine a_neI ?_ | with_reducible refine a_eqS ?_ | with_reducible refine a_neS ?_ | with_reducible refine a_test ?_ | with_reducible refine a_tB ?_ | with_reducible refine a_bl ?_ | with_reducible refine a_int ?_
  | with_reducible refine a_and ?_ | with_reducible refine a_or ?_ | with_reducible refine a_not ?_ | with_reducible refine a_andV ?_ | with_reducible refine a_orV ?_ | with_reducible refine a_notV ?_ | with_reducible refine a_ifE ?_ | with_reducible refine a_chain ?_ | with_reducible refine a_call ?_ | with_reducible refine a_cb ?_ | with_reducible refine a_star ?_
  | ((with_reducible refine a_nameX ?_); refine ⟨_, (by simp only [L2.wipe, L2.start, List.map_cons, List.map_nil, List.length_cons, List.length_nil, List.replicate_succ, List.replicate_zero, Nat.reduceSub, Nat.reduceAdd, Nat.zero_add, List.cons_append, List.nil_append, List.set_cons_zero, List.set_cons_succ]; exact rfl), ?_⟩) | with_reducible refine a_gcons ?_ | with_reducible refine a_gnil ?_ | with_reducible refine a_gsub ?_ | with_reducible refine a_par ?_ | ((with_reducible refine a_parX rfl ?_); refine ⟨_, (by simp only [L2.wipe, L2.start, List.map_cons, List.map_nil, List.length_cons, List.length_nil, List.replicate_succ, List.replicate_zero, Nat.reduceSub, Nat.reduceAdd, Nat.zero_add, List.cons_append, List.nil_append, List.set_cons_zero, List.set_cons_succ]; exact rfl), ?_⟩) | ((with_reducible refine a_augX ?_); refine ⟨_, rfl, ?_⟩) | with_reducible refine a_ipI ?_ | with_reducible refine a_tup ?_ | with_reducible refine a_lst ?_ | with_reducible refine a_sl ?_ | with_reducible refine a_sslX ?_
  | with_reducible refine a_tsl ?_ | with_reducible refine a_noPart ?_ | with_reducible refine a_part ?_ | with_reducible refine a_i1 ?_ | with_reducible refine a_i1b ?_ | with_reducible refine a_mx ?_ | with_reducible refine a_mn ?_ | with_reducible refine a_ab ?_ | with_reducible refine a_mat ?_ | with_reducible refine a_case ?_
  | ((with_reducible refine a_oneS ?_ ?_); omega) | ((with_reducible refine a_mask 1 ?_ ?_); decide) | ((with_reducible refine a_mask 3 ?_ ?_); decide) | ((with_reducible refine a_mask 6 ?_ ?_); decide) | ((with_reducible refine a_mask 9 ?_ ?_); decide) | ((with_reducible refine a_rI ?_ ?_); first | exact ⟨by decide, by decide⟩ | decide)
  | ((with_reducible refine a_shlK 12 ?_ ?_ ?_); rfl; exact shl_small (by omega) (by omega) (by decide)) | ((with_reducible refine a_shlK 9 ?_ ?_ ?_); rfl; exact shl_small (by omega) (by omega) (by decide)) | ((with_reducible refine a_shlK 6 ?_ ?_ ?_); rfl; exact shl_small (by omega) (by omega) (by decide)) | with_reducible refine a_kdGet ?_
  | with_reducible refine a_bm0 ?_ | with_reducible refine a_bm ?_ | with_reducible refine a_dnewT ?_ | with_reducible refine a_gsl ?_ | with_reducible refine a_mk ?_
  | with_reducible refine a_dget2 ?_ | with_reducible refine a_dnewK ?_ | with_reducible refine a_tli ?_ | with_reducible refine a_pair ?_ | with_reducible refine a_pair0 ?_
  | with_reducible refine a_lc ?_ | with_reducible refine a_itup ?_ | with_reducible refine a_ilst ?_ | with_reducible refine a_yes ?_ | with_reducible refine a_iitems ?_ | with_reducible refine a_dc ?_ | with_reducible refine a_isN0 ?_ | with_reducible refine a_notN0 ?_ | with_reducible refine a_izip ?_ | with_reducible refine a_dget ?_ | with_reducible refine a_propSl ?_ | with_reducible refine a_methSl ?_ | with_reducible refine a_for ?_ | with_reducible refine a_rng1 ?_ | with_reducible refine a_rng2 ?_
  | with_reducible refine iteT ?_ | with_reducible refine iteF ?_)
local macro_rules | `(tactic| walk_at "t") => `(tactic| refine ⟨Nat.le_of_ble_eq_true rfl, a_new ?_⟩)
local macro_rules | `(tactic| walk_at "w") => `(tactic| repeat walk_at "s")
local macro_rules | `(tactic| walk_at "t0") => `(tactic| refine ⟨Nat.le_of_ble_eq_true rfl, ?_⟩)
def nmV : List V := [.str "add", .str "sub", .str "and", .str "or", .str "xor", .str "less", .str "left", .str "right"]
theorem nmV_in : ∀ j, j < 11 → inV (.str (nm j)) nmV = decide (j < 8) := by decide +kernel
theorem nmV_at : ∀ j, j < 8 → eqV (nmV.getD j .non) (.str (nm j)) = true ∧ ∀ k, k < j → eqV (nmV.getD k .non) (.str (nm j)) = false := by decide +kernel
theorem nmV_get {k : Nat} (h : k < 8) : nmV[k]? = some (nmV.getD k .non) := by
  have hk : k < nmV.length := h
  rw [List.getD_eq_getElem?_getD, List.getElem?_eq_getElem hk]; rfl
theorem nm_times : ∀ j, j < 11 → decide (nm j = ("times" : Str)) = decide (j = 8) := by decide +kernel
theorem nm_part : ∀ j, j < 11 → decide (nm j = ("part" : Str)) = decide (j = 9) := by decide +kernel
section
variable {P : Program} {w : World} {K : PySem.W.Frag} {mg : Str → Option Value} {base : Heap}
theorem sc_law_valued : FnScope ["_law_shape", "_law_name", "_law_one", "_law_two", "_law_names"] ["_law_shape", "_law_name", "_law_one", "_law_two"] (defScope (top 115)) := ⟨rfl, rfl, rfl, by decide +kernel, rfl, by decide +kernel, by decide +kernel⟩
abbrev sp_law_valued : Sp := fun vs H Q _ => ∃ (v : V) (m R j : Nat) (a b : Int), vs = [v, .str (nm j), .int a, .int b] ∧ IsL H v m R ∧ (4 ≤ m ∧ m ≤ 16) ∧ j < 11 ∧ Wd m a ∧ Wd m b ∧ ∀ H', Same H H' → Q (optV (val2 m j a b)) H'
theorem ok_law_valued (T : Txt w K mg base) : C8.Cal P w K mg base 4 "_law_valued" sp_law_valued [] := by
  refine cal_of T.f_law_valued T.m_law_valued sc_law_valued (fun vs H Q E h => ?_) (fun _ _ _ _ _ _ us hl => match us, hl with | [_, _, _, _], _ => rfl) fun cdv A outer s H vs Q E hr h => ?_
  · obtain ⟨_, _, _, _, _, _, rfl, _⟩ := h; rfl
  obtain ⟨v, m, R, j, a, b, rfl, q⟩ := h
  refine ⟨_, pss_cons (ps_set (i := 4) sc_law_valued.nd rfl (Or.inl rfl) (pe_lst (pa_cons (pe_str) (pa_cons (pe_str) (pa_cons (pe_str) (pa_cons (pe_str) (pa_cons (pe_str) (pa_cons (pe_str) (pa_cons (pe_str) (pa_cons (pe_str) pa_nil))))))))))
  (pss_cons (ps_if (pt_cmpR op_in_seq (pv 1) (pv 4) rfl)
    (pss_one (ps_ret (C8.pe_c (ok_law_reckoned T) hr (by omega) rfl (pa_cons (pv 0) (pa_cons (pe_bm PySem.F.plainAttrs_list PySem.F.slot_list_index PySem.F.type_list_index mt_index (pv 4) (pa_cons (pv 1) pa_nil)) (pa_cons (pv 2) (pa_cons (pv 3) pa_nil)))))))
    (pss_nil))
  (pss_cons (ps_if (pt_cmpR op_eq (pv 1) (pe_str) (nomark _))
    (pss_one (ps_ret (pe_op op_mod (pe_op op_mul (pv 2) (pv 3)) (C8.pe_c (ok_law_two_to T) hr (by omega) rfl (pa_cons (pe_ix ix_tup (pv 0) (pe_int) (fun _ _ => rfl)) pa_nil)))))
    (pss_nil))
  (pss_one (ps_ret (pe_ifExp (pt_cmpR op_eq (pv 3) (pe_int) (nomark _)) (pe_non) (pe_ifExp (pt_cmpR op_eq (pv 1) (pe_str) (nomark _)) (pe_op op_fdiv (pv 2) (pv 3)) (pe_op op_mod (pv 2) (pv 3)))))))), ?_⟩
  obtain ⟨hsh, hm, hj, ha, hb, q⟩ := q
  have ha' := wd_lt hm.2 ha
  have hb' := wd_lt hm.2 hb
  walk_at "w"
  refine ⟨Nat.le_of_ble_eq_true rfl, a_new fun p H1 n1 S1 e1 => ?_⟩
  have hp : SqL K H1 p nmV := SqL.of e1
  walk_at "w"
  refine a_inL hp rfl rfl ?_
  rw [show (if false = true then !inV (.str (nm j)) nmV else inV (.str (nm j)) nmV) = decide (j < 8) from nmV_in j hj]
  walk_at "w"
  refine d_ite (fun h8 => ?_) fun h8 => ?_
  · walk_at "w"
    refine ⟨ty_list hp, ?_⟩
    walk_at "w"
    refine ⟨p, nmV, .str (nm j), j, nmV.getD j .non, rfl, rfl, hp, rfl, rfl, nmV_get h8, (nmV_at j h8).1, fun k z hk hz => ?_, ?_⟩
    · rw [nmV_get (by omega)] at hz
      rw [← Option.some.inj hz]
      exact (nmV_at j h8).2 k hk
    walk_at "w"
    refine ⟨v, m, R, j, a, b, rfl, hsh.same S1, hm, h8, ha, hb, fun H2 S2 => ?_⟩
    have e : V.int (rk m j a b) = optV (val2 m j a b) := by unfold val2; rw [if_pos h8]; rfl
    rw [e]
    exact q _ (S1.trans S2)
  have ev : ∀ {o : Option Int}, o = val2 m j a b → ∀ H', Same H H' → Q (optV o) H' := fun e H' S => by rw [e]; exact q H' S
  walk_at "w"
  rw [nm_times j hj]
  refine d_ite (fun h => ?_) fun h => ?_
  · subst h
    obtain ⟨sa, rfl, hs⟩ := hsh
    walk_at "w"
    refine a_rI (.inl ⟨by omega, by omega⟩) ?_
    walk_at "w"
    refine a_ixT (SqT.of (via S1 hs)) (at_of (j := 0) rfl rfl) ?_
    walk_at "w"
    refine ⟨m, rfl, hm.2, fun H2 S2 => ?_⟩
    refine a_rI (two_pos m) ?_
    exact ev (o := some _) rfl _ (S1.trans S2)
  walk_at "w"
  refine d_ite (fun h0 => ?_) fun h0 => ?_
  · walk_at "w"
    refine ev (o := none) ?_ _ S1
    unfold val2; rw [if_neg h8, if_neg h, if_pos h0]
  walk_at "w"
  rw [nm_part j hj]
  refine d_ite (fun h9 => ?_) fun h9 => ?_
  · walk_at "w"
    refine a_rI ⟨by omega, by omega⟩ ?_
    refine ev (o := some _) ?_ _ S1
    unfold val2; rw [if_neg h8, if_neg h, if_neg h0, if_pos h9]
  · walk_at "w"
    refine a_rI (show (0 : Int) < b by omega) ?_
    refine ev (o := some _) ?_ _ S1
    unfold val2; rw [if_neg h8, if_neg h, if_neg h0, if_neg h9]
end
end K83
end
section
set_option maxRecDepth 100000
set_option maxHeartbeats 4000000
namespace K83
open PySem PySem.Spec PyProof.Rows L2
local macro_rules | `(tactic| walk_at "s") => `(tactic| first
  | with_reducible refine a_seq ?_ | ((with_reducible refine a_varX ?_); refine ⟨_, rfl, ?_⟩) | with_reducible refine a_c ?_ | with_reducible refine a_op ?_ | with_reducible refine a_rI0 ?_ | with_reducible refine a_cons ?_ | with_reducible refine a_nil ?_
  | with_reducible refine a_next ?_ | with_reducible refine a_ret ?_ | with_reducible refine a_retN ?_ | with_reducible refine a_drop ?_ | with_reducible refine a_if ?_ | with_reducible refine a_asg ?_ | with_reducible refine a_un ?_
  | with_reducible refine a_rU ?_ | with_reducible refine a_eqI ?_ | with_reducible refine a_neI ?_ | with_reducible refine a_eqS ?_ | with_reducible refine a_neS ?_ | with_reducible refine a_test ?_ | with_reducible refine a_tB ?_ | with_reducible refine a_bl ?_ | with_reducible refine a_int ?_
  | with_reducible refine a_and ?_ | with_reducible refine a_or ?_ | with_reducible refine a_not ?_ | with_reducible refine a_andV ?_ | with_reducible refine a_orV ?_ | with_reducible refine a_notV ?_ | with_reducible refine a_ifE ?_ | with_reducible refine a_chain ?_ | with_reducible refine a_call ?_ | with_reducible refine a_cb ?_ | with_reducible refine a_star ?_
  | ((with_reducible refine a_nameX ?_); refine ⟨_, (by simp only [L2.wipe, L2.start, List.map_cons, List.map_nil, List.length_cons, List.length_nil, List.replicate_succ, List.replicate_zero, Nat.reduceSub, Nat.reduceAdd, Nat.zero_add, List.cons_append, List.nil_append, List.set_cons_zero, List.set_cons_succ]; exact rfl), ?_⟩) | with_reducible refine a_gcons ?_ | with_reducible refine a_gnil ?_ | with_reducible refine a_gsub ?_ | with_reducible refine a_par ?_ | ((with_reducible refine a_parX rfl ?_); refine ⟨_, (by simp only [L2.wipe, L2.start, List.map_cons, List.map_nil, List.length_cons, List.length_nil, List.replicate_succ, List.replicate_zero, Nat.reduceSub, Nat.reduceAdd, Nat.zero_add, List.cons_append, List.nil_append, List.set_cons_zero, List.set_cons_succ]; exact rfl), ?_⟩) | ((with_reducible refine a_augX ?_); refine ⟨_, rfl, ?_⟩) | with_reducible refine a_ipI ?_ | with_reducible refine a_tup ?_ | with_reducible refine a_lst ?_ | with_reducible refine a_sl ?_ | with_reducible refine a_sslX ?_
  | with_reducible refine a_tsl ?_ | with_reducible refine a_noPart ?_ | with_reducible refine a_part ?_ | with_reducible refine a_i1 ?_ | with_reducible refine a_i1b ?_ | with_reducible refine a_mx ?_ | with_reducible refine a_mn ?_ | with_reducible refine a_ab ?_ | with_reducible refine a_mat ?_ | with_reducible refine a_case ?_
  | ((with_reducible refine a_oneS ?_ ?_); omega) | ((with_reducible refine a_mask 1 ?_ ?_); decide) | ((with_reducible refine a_mask 3 ?_ ?_); decide) | ((with_reducible refine a_mask 6 ?_ ?_); decide) | ((with_reducible refine a_mask 9 ?_ ?_); decide) | ((with_reducible refine a_rI ?_ ?_); first | exact ⟨by decide, by decide⟩ | decide)
  | ((with_reducible refine a_shlK 12 ?_ ?_ ?_); rfl; exact shl_small (by omega) (by omega) (by decide)) | ((with_reducible refine a_shlK 9 ?_ ?_ ?_); rfl; exact shl_small (by omega) (by omega) (by decide)) | ((with_reducible refine a_shlK 6 ?_ ?_ ?_); rfl; exact shl_small (by omega) (by omega) (by decide)) | with_reducible refine a_kdGet ?_
  | with_reducible refine a_bm0 ?_ | with_reducible refine a_bm ?_ | with_reducible refine a_dnewT ?_ | with_reducible refine a_gsl ?_ | with_reducible refine a_mk ?_
  | with_reducible refine a_dget2 ?_ | with_reducible refine a_dnewK ?_ | with_reducible refine a_tli ?_ | with_reducible refine a_pair ?_ | with_reducible refine a_pair0 ?_
  | with_reducible refine a_lc ?_ | with_reducible refine a_itup ?_ | with_reducible refine a_ilst ?_ | with_reducible refine a_yes ?_ | with_reducible refine a_iitems ?_ | with_reducible refine a_dc ?_ | with_reducible refine a_isN0 ?_ | with_reducible refine a_notN0 ?_ | with_reducible refine a_izip ?_ | with_reducible refine a_dget ?_ | with_reducible refine a_propSl ?_ | with_reducible refine a_methSl ?_ | with_reducible refine a_for ?_ | with_reducible refine a_rng1 ?_ | with_reducible refine a_rng2 ?_
  | with_reducible refine iteT ?_ | with_reducible refine iteF ?_)
local macro_rules | `(tactic| walk_at "t") => `(tactic| refine ⟨Nat.le_of_ble_eq_true rfl, a_new ?_⟩)
local macro_rules | `(tactic| walk_at "w") => `(tactic| repeat walk_at "s")
local macro_rules | `(tactic| walk_at "t0") => `(tactic| refine ⟨Nat.le_of_ble_eq_true rfl, ?_⟩)
section
variable {P : Program} {w : World} {K : PySem.W.Frag} {mg : Str → Option Value} {base : Heap}
theorem sc_law_value : FnScope ["_law_shape", "_law_store", "_law_formula", "_law_size", "_law_one", "_law_high", "_law_many", "_law_two", "_law_deep", "_law_more", "_law_height", "_law_value_here"] ["_law_shape", "_law_store", "_law_formula"] (defScope (top 116)) := ⟨rfl, rfl, rfl, by decide +kernel, rfl, by decide +kernel, by decide +kernel⟩
abbrev sp_law_value (N : Nat) : Sp := fun vs H Q _ => ∃ (sv v : V) (d : Addr) (m R : Nat) (mem : List (Int × Int)) (f : Fm), vs = [sv, .ref d, v] ∧ IsL H sv m R ∧ (4 ≤ m ∧ m ≤ 16) ∧ H d = some (.dK (memK mem)) ∧ (∀ k, Wd m (ldOf mem k)) ∧ IsF H v f ∧ f.ok ∧ f.cnt ≤ N ∧
  ∀ p H', Same H H' → H' p = some (.tup [optV (f.val m (ldOf mem)), .int (f.ht : Int), .int (f.cnt : Int)]) → Q (.ref p) H'
theorem ok_law_value (T : Txt w K mg base) : ∀ N : Nat, C8.Cal P w K mg base (N + 5) "_law_value" (sp_law_value N) []
  | 0 => by
    refine cal_of T.f_law_value T.m_law_value sc_law_value (fun vs H Q E h => ?_) (fun _ _ _ _ _ _ us hl => match us, hl with | [_, _, _], _ => rfl) fun cdv A outer s H vs Q E hr h => ?_
    · obtain ⟨_, _, _, _, _, _, _, rfl, _⟩ := h; rfl
    obtain ⟨sv, v, d, m, R, mem, f, rfl, hs, hm, hd, hw, hf, ho, hN, q⟩ := h
    have := f.cnt_pos
    exact absurd hN (by omega)
  | N + 1 => by
    have ih := ok_law_value T N
    refine cal_of T.f_law_value T.m_law_value sc_law_value (fun vs H Q E h => ?_) (fun _ _ _ _ _ _ us hl => match us, hl with | [_, _, _], _ => rfl) fun cdv A outer s H vs Q E hr h => ?_
    · obtain ⟨_, _, _, _, _, _, _, rfl, _⟩ := h; rfl
    obtain ⟨sv, v, d, m, R, mem, f, rfl, hs, hm, hd, hw, hf, ho, hN, q⟩ := h
    refine ⟨_, pss_cons (ps_set (i := 3) sc_law_value.nd rfl (Or.inl rfl) (C8.pe_c (ok_law_two_to T) hr (by omega) rfl (pa_cons (pe_ix ix_tup (pv 0) (pe_int) (fun _ _ => rfl)) pa_nil)))
  (pss_cons (ps_if (pt_cmpR op_eq (pe_ix ix_tup (pv 2) (pe_int) (fun _ _ => rfl)) (pe_str) (nomark _))
    (pss_one (ps_ret (pe_tup (pa_cons (pe_op op_mod (pe_ix ix_tup (pv 2) (pe_int) (fun _ _ => rfl)) (pv 3)) (pa_cons (pe_int) (pa_cons (pe_int) pa_nil))))))
    (pss_nil))
  (pss_cons (ps_if (pt_cmpR op_eq (pe_ix ix_tup (pv 2) (pe_int) (fun _ _ => rfl)) (pe_str) (nomark _))
    (pss_one (ps_ret (pe_tup (pa_cons (pe_dget2 (hu_of hr) (pv 1) (pe_op op_mod (pe_ix ix_tup (pv 2) (pe_int) (fun _ _ => rfl)) (pv 3)) (pe_int) ⟨rfl, rfl, rfl, rfl⟩) (pa_cons (pe_int) (pa_cons (pe_int) pa_nil))))))
    (pss_nil))
  (pss_cons (ps_asg (C8.pe_c (ih) hr (by omega) rfl (pa_cons (pv 0) (pa_cons (pv 1) (pa_cons (pe_ix ix_tup (pv 2) (pe_int) (fun _ _ => rfl)) pa_nil)))) (pg_tup rfl (pgs_cons (pg_name (i := 4) sc_law_value.nd rfl (Or.inl rfl)) (pgs_cons (pg_name (i := 5) sc_law_value.nd rfl (Or.inl rfl)) (pgs_cons (pg_name (i := 6) sc_law_value.nd rfl (Or.inl rfl)) pgs_nil)))))
  (pss_cons (ps_asg (C8.pe_c (ih) hr (by omega) rfl (pa_cons (pv 0) (pa_cons (pv 1) (pa_cons (pe_ix ix_tup (pv 2) (pe_int) (fun _ _ => rfl)) pa_nil)))) (pg_tup rfl (pgs_cons (pg_name (i := 7) sc_law_value.nd rfl (Or.inl rfl)) (pgs_cons (pg_name (i := 8) sc_law_value.nd rfl (Or.inl rfl)) (pgs_cons (pg_name (i := 9) sc_law_value.nd rfl (Or.inl rfl)) pgs_nil)))))
  (C8.pss_cut (ps_set (i := 10) sc_law_value.nd rfl (Or.inl rfl) (pe_ifExp (pt_cmpR op_eq (pv 5) (pv 8) (nomark _)) (pe_op op_add (pv 5) (pe_int)) (pe_callB (call_mx rfl) (by rfl) T.n_max (by decide +kernel) (pa_cons (pv 5) (pa_cons (pv 8) pa_nil)))))
  (pss_cons (ps_set (i := 11) sc_law_value.nd rfl (Or.inl rfl) (pe_ifExp (PW.pt (pw_or (pt_cmpR op_isN0 (pv 4) (pe_non) (nomark _)) (pw_or1 (pt_cmpR op_isN0 (pv 7) (pe_non) (nomark _))))) (pe_non) (C8.pe_c (ok_law_valued T) hr (by omega) rfl (pa_cons (pv 0) (pa_cons (pe_ix ix_tup (pv 2) (pe_int) (fun _ _ => rfl)) (pa_cons (pv 4) (pa_cons (pv 7) pa_nil)))))))
  (pss_one (ps_ret (pe_tup (pa_cons (pv 11) (pa_cons (pv 10) (pa_cons (pe_op op_add (pe_op op_add (pv 6) (pv 9)) (pe_int)) pa_nil)))))))))))), ?_⟩
    obtain ⟨sa, rfl, hsa⟩ := id hs
    walk_at "w"
    refine a_ixT (SqT.of hsa) (at_of (j := 0) rfl rfl) ?_
    walk_at "w"
    refine ⟨m, rfl, hm.2, fun H1 S1 => ?_⟩
    walk_at "w"
    cases f with
    | num n =>
      obtain ⟨b, rfl, hb⟩ := hf
      refine a_ixT (SqT.of (via S1 hb)) (at_of (j := 0) rfl rfl) ?_
      walk_at "w"
      refine d_t rfl ?_
      walk_at "w"
      refine a_ixT (SqT.of (via S1 hb)) (at_of (j := 1) rfl rfl) ?_
      walk_at "w"
      refine a_rI (two_pos m) ?_
      walk_at "w"
      walk_at "t"
      intro p H2 n2 S2 e2
      exact q p H2 (S1.trans S2) e2
    | cell n =>
      obtain ⟨b, rfl, hb⟩ := hf
      refine a_ixT (SqT.of (via S1 hb)) (at_of (j := 0) rfl rfl) ?_
      walk_at "w"
      refine d_f (by decide +kernel) ?_
      walk_at "w"
      refine a_ixT (SqT.of (via S1 hb)) (at_of (j := 0) rfl rfl) ?_
      walk_at "w"
      refine d_t rfl ?_
      walk_at "w"
      refine ⟨d, rfl, .inl ⟨_, Rd.of (via S1 hd)⟩, ?_⟩
      walk_at "w"
      refine a_ixT (SqT.of (via S1 hb)) (at_of (j := 1) rfl rfl) ?_
      walk_at "w"
      refine a_rI (two_pos m) ?_
      walk_at "w"
      refine ⟨_, DGet.k (k := .inl (n % 2 ^ m)) (via S1 hd), ?_⟩
      rw [valV_memK]
      walk_at "w"
      walk_at "t"
      intro p H2 n2 S2 e2
      exact q p H2 (S1.trans S2) e2
    | two j l r =>
      obtain ⟨b, y, z, rfl, hb, hl, hk⟩ := hf
      have hc2 := Fm.cnt_two j l r
      have p1 := l.cnt_pos
      have p2 := r.cnt_pos
      refine a_ixT (SqT.of (via S1 hb)) (at_of (j := 0) rfl rfl) ?_
      walk_at "w"
      refine d_f (by decide +kernel) ?_
      walk_at "w"
      refine a_ixT (SqT.of (via S1 hb)) (at_of (j := 0) rfl rfl) ?_
      walk_at "w"
      refine d_f (by decide +kernel) ?_
      walk_at "w"
      refine a_ixT (SqT.of (via S1 hb)) (at_of (j := 2) rfl rfl) ?_
      walk_at "w"
      refine ⟨_, y, d, m, R, mem, l, rfl, hs.same S1, hm, via S1 hd, hw, hl.same S1, ho.2.1, by omega, fun p2 H2 S2 e2 => ?_⟩
      have S02 := S1.trans S2
      walk_at "w"
      refine a_gtup (SqT.of e2) rfl ?_
      walk_at "w"
      refine a_ixT (SqT.of (via S02 hb)) (at_of (j := 3) rfl rfl) ?_
      walk_at "w"
      refine ⟨_, z, d, m, R, mem, r, rfl, hs.same S02, hm, via S02 hd, hw, hk.same S02, ho.2.2, by omega, fun p3 H3 S3 e3 => ?_⟩
      have S03 := S02.trans S3
      walk_at "w"
      refine a_gtup (SqT.of e3) rfl ?_
      walk_at "w"
      refine a_cut (fun σ' H' => ∃ o5 o6 o9, σ' = [some (.ref sa), some (.ref d), some (.ref b), o5, some (optV (l.val m (ldOf mem))), o6, some (.int (l.cnt : Int)), some (optV (r.val m (ldOf mem))), o9, some (.int (r.cnt : Int)), some (.int ((Fm.two j l r).ht : Int)), none] ∧ Same H H') ?_ ?_
      · walk_at "w"
        refine d_ite (fun h0 => ?_) fun h0 => ?_
        · walk_at "w"
          have e : ((l.ht : Int) + 1) = ((Fm.two j l r).ht : Int) := by
            rw [Fm.ht_two, if_pos (Int.ofNat.inj h0)]; rfl
          rw [e]
          exact ⟨_, _, _, rfl, S03⟩
        · walk_at "w"
          have e : max (l.ht : Int) (r.ht : Int) = ((Fm.two j l r).ht : Int) := by
            rw [Fm.ht_two, if_neg fun h => h0 (congrArg Int.ofNat h)]; omega
          rw [e]
          exact ⟨_, _, _, rfl, S03⟩
      · intro σ' H' ⟨o5, o6, o9, e, S4⟩
        subst e
        have ec : ((l.cnt : Int) + (r.cnt : Int) + 1) = ((Fm.two j l r).cnt : Int) := by rw [hc2]; omega
        have evt : (Fm.two j l r).val m (ldOf mem) = (l.val m (ldOf mem)).bind fun a => (r.val m (ldOf mem)).bind fun b => val2 m j a b := rfl
        have kl := val_wd (w := m) (by omega) hw l
        have kr := val_wd (w := m) (by omega) hw r
        generalize (Fm.two j l r).val m (ldOf mem) = vt at *
        generalize l.val m (ldOf mem) = vl at *
        generalize r.val m (ldOf mem) = vr at *
        cases vl with
        | none =>
          subst evt
          walk_at "w"
          refine d_t rfl ?_
          walk_at "w"
          rw [ec]
          walk_at "t"
          intro p H5 n5 S5 e5
          exact q p H5 (S4.trans S5) e5
        | some a =>
          cases vr with
          | none =>
            subst evt
            walk_at "w"
            refine d_f (fun h => V.noConfusion h) ?_
            walk_at "w"
            refine d_t rfl ?_
            walk_at "w"
            rw [ec]
            walk_at "t"
            intro p H5 n5 S5 e5
            exact q p H5 (S4.trans S5) e5
          | some c =>
            subst evt
            walk_at "w"
            refine d_f (fun h => V.noConfusion h) ?_
            walk_at "w"
            refine d_f (fun h => V.noConfusion h) ?_
            walk_at "w"
            refine a_ixT (SqT.of (via S4 hb)) (at_of (j := 1) rfl rfl) ?_
            walk_at "w"
            refine ⟨_, m, R, j, a, c, rfl, hs.same S4, hm, ho.1, kl _ rfl, kr _ rfl, fun H5 S5 => ?_⟩
            walk_at "w"
            rw [ec]
            walk_at "t"
            intro p H6 n6 S6 e6
            exact q p H6 ((S4.trans S5).trans S6) e6
end
end K83
end
section
set_option maxRecDepth 100000
set_option maxHeartbeats 4000000
namespace K83
open PySem PySem.Spec PyProof.Rows L2
local macro_rules | `(tactic| walk_at "s") => `(tactic| first
  | with_reducible refine a_seq ?_ | ((with_reducible refine a_varX ?_); refine ⟨_, rfl, ?_⟩) | with_reducible refine a_c ?_ | with_reducible refine a_op ?_ | with_reducible refine a_rI0 ?_ | with_reducible refine a_cons ?_ | with_reducible refine a_nil ?_
  | with_reducible refine a_next ?_ | with_reducible refine a_ret ?_ | with_reducible refine a_retN ?_ | with_reducible refine a_drop ?_ | with_reducible refine a_if ?_ | with_reducible refine a_asg ?_ | with_reducible refine a_un ?_
  | with_reducible refine a_rU ?_ | with_reducible refine a_eqI ?_ | with_reducible refine a_neI ?_ | with_reducible refine a_eqS ?_ | with_reducible refine a_neS ?_ | with_reducible refine a_test ?_ | with_reducible refine a_tB ?_ | with_reducible refine a_bl ?_ | with_reducible refine a_int ?_
  | with_reducible refine a_and ?_ | with_reducible refine a_or ?_ | with_reducible refine a_not ?_ | with_reducible refine a_andV ?_ | with_reducible refine a_orV ?_ | with_reducible refine a_notV ?_ | with_reducible refine a_ifE ?_ | with_reducible refine a_chain ?_ | with_reducible refine a_call ?_ | with_reducible refine a_cb ?_ | with_reducible refine a_star ?_
  | ((with_reducible refine a_nameX ?_); refine ⟨_, (by simp only [L2.wipe, L2.start, List.map_cons, List.map_nil, List.length_cons, List.length_nil, List.replicate_succ, List.replicate_zero, Nat.reduceSub, Nat.reduceAdd, Nat.zero_add, List.cons_append, List.nil_append, List.set_cons_zero, List.set_cons_succ]; exact rfl), ?_⟩) | with_reducible refine a_gcons ?_ | with_reducible refine a_gnil ?_ | with_reducible refine a_gsub ?_ | with_reducible refine a_par ?_ | ((with_reducible refine a_parX rfl ?_); refine ⟨_, (by simp only [L2.wipe, L2.start, List.map_cons, List.map_nil, List.length_cons, List.length_nil, List.replicate_succ, List.replicate_zero, Nat.reduceSub, Nat.reduceAdd, Nat.zero_add, List.cons_append, List.nil_append, List.set_cons_zero, List.set_cons_succ]; exact rfl), ?_⟩) | ((with_reducible refine a_augX ?_); refine ⟨_, rfl, ?_⟩) | with_reducible refine a_ipI ?_ | with_reducible refine a_tup ?_ | with_reducible refine a_lst ?_ | with_reducible refine a_sl ?_ | with_reducible refine a_sslX ?_
  | with_reducible refine a_tsl ?_ | with_reducible refine a_noPart ?_ | with_reducible refine a_part ?_ | with_reducible refine a_i1 ?_ | with_reducible refine a_i1b ?_ | with_reducible refine a_mx ?_ | with_reducible refine a_mn ?_ | with_reducible refine a_ab ?_ | with_reducible refine a_mat ?_ | with_reducible refine a_case ?_
  | ((with_reducible refine a_oneS ?_ ?_); omega) | ((with_reducible refine a_mask 1 ?_ ?_); decide) | ((with_reducible refine a_mask 3 ?_ ?_); decide) | ((with_reducible refine a_mask 6 ?_ ?_); decide) | ((with_reducible refine a_mask 9 ?_ ?_); decide) | ((with_reducible refine a_rI ?_ ?_); first | exact ⟨by decide, by decide⟩ | decide)
  | ((with_reducible refine a_shlK 12 ?_ ?_ ?_); rfl; exact shl_small (by omega) (by omega) (by decide)) | ((with_reducible refine a_shlK 9 ?_ ?_ ?_); rfl; exact shl_small (by omega) (by omega) (by decide)) | ((with_reducible refine a_shlK 6 ?_ ?_ ?_); rfl; exact shl_small (by omega) (by omega) (by decide)) | with_reducible refine a_kdGet ?_
  | with_reducible refine a_bm0 ?_ | with_reducible refine a_bm ?_ | with_reducible refine a_dnewT ?_ | with_reducible refine a_gsl ?_ | with_reducible refine a_mk ?_
  | with_reducible refine a_dget2 ?_ | with_reducible refine a_dnewK ?_ | with_reducible refine a_tli ?_ | with_reducible refine a_pair ?_ | with_reducible refine a_pair0 ?_
  | with_reducible refine a_lc ?_ | with_reducible refine a_itup ?_ | with_reducible refine a_ilst ?_ | with_reducible refine a_yes ?_ | with_reducible refine a_iitems ?_ | with_reducible refine a_dc ?_ | with_reducible refine a_isN0 ?_ | with_reducible refine a_notN0 ?_ | with_reducible refine a_izip ?_ | with_reducible refine a_dget ?_ | with_reducible refine a_propSl ?_ | with_reducible refine a_methSl ?_ | with_reducible refine a_for ?_ | with_reducible refine a_rng1 ?_ | with_reducible refine a_rng2 ?_
  | with_reducible refine iteT ?_ | with_reducible refine iteF ?_)
local macro_rules | `(tactic| walk_at "t") => `(tactic| refine ⟨Nat.le_of_ble_eq_true rfl, a_new ?_⟩)
local macro_rules | `(tactic| walk_at "w") => `(tactic| repeat walk_at "s")
local macro_rules | `(tactic| walk_at "t0") => `(tactic| refine ⟨Nat.le_of_ble_eq_true rfl, ?_⟩)
section
variable {X : Cx}
/-- a power by its size in bits -/
def CPowB (i j : Int) : Prop := 0 ≤ j ∧ (Builtin.Int.intBits i : Int) * j ≤ 2 ^ 27
theorem op_powB : OpR X (binaryOp .Pow) (rI CPowB fun i j => .int (i ^ j.toNat)) := opI fun _ _ _ _ _ _ _ hc q => pow_int hc.1 hc.2 q
end
/-- the dice: a list of three integers -/
def IsDi (H : Hp) (d : Addr) : Prop := ∃ x y z : Int, H d = some (.lst [.int x, .int y, .int z])
/-- all but the dice stays -/
def But (d : Addr) (H H' : Hp) : Prop := ∀ b o, b ≠ d → H b = some o → H' b = some o
theorem But.refl (d : Addr) (H : Hp) : But d H H := fun _ _ _ e => e
theorem But.trans {d : Addr} {H H1 H2 : Hp} (a : But d H H1) (b : But d H1 H2) : But d H H2 := fun c o h e => b c o h (a c o h e)
theorem But.same {d : Addr} {H H1 H2 : Hp} (a : But d H H1) (S : Same H1 H2) : But d H H2 := fun c o h e => S _ _ (a c o h e)
theorem But.of {d : Addr} {H H1 : Hp} (S : Same H H1) : But d H H1 := fun c o _ e => S _ _ e
theorem But.put {d : Addr} {H H1 : Hp} {o : HO} (a : But d H H1) : But d H (upd H1 d o) := fun c o' h e => by rw [upd_ne h]; exact a c o' h e
theorem IsDi.same {H H' : Hp} {d : Addr} (S : Same H H') (h : IsDi H d) : IsDi H' d := by
  obtain ⟨x, y, z, e⟩ := h
  exact ⟨x, y, z, S _ _ e⟩
theorem IsDi.ne {H : Hp} {d b : Addr} {o : HO} (h : IsDi H d) (e : H b = some o) (hn : ∀ xs, o ≠ .lst xs) : b ≠ d := fun z => by
  obtain ⟨x, y, w, e'⟩ := h
  rw [z, e'] at e
  exact hn _ (Option.some.inj e).symm
section
variable {P : Program} {w : World} {K : PySem.W.Frag} {mg : Str → Option Value} {base : Heap}
theorem sc_law_dice : FnScope ["_law_script", "_law_at", "_law_cell", "_law_great", "_law_left", "_law_mixed"] ["_law_script", "_law_at"] (defScope (top 102)) := ⟨rfl, rfl, rfl, by decide +kernel, rfl, by decide +kernel, by decide +kernel⟩
abbrev sp_law_dice (K : PySem.W.Frag) : Sp := fun vs H Q _ => ∃ (a : Addr) (ns : List Int) (k : Nat), vs = [.ref a, .int (k : Int)] ∧ SqL K H a (ns.map V.int) ∧ ∀ d H', H d = none → Same H H' → IsDi H' d → Q (.ref d) H'
theorem ok_law_dice (T : Txt w K mg base) : C8.Cal P w K mg base 1 "_law_dice" (sp_law_dice K) [] := by
  refine cal_of T.f_law_dice T.m_law_dice sc_law_dice (fun vs H Q E h => ?_) (fun _ _ _ _ _ _ us hl => match us, hl with | [_, _], _ => rfl) fun cdv A outer s H vs Q E hr h => ?_
  · obtain ⟨_, _, _, rfl, _⟩ := h; rfl
  obtain ⟨a, ns, k, rfl, q⟩ := h
  refine ⟨_, pss_cons (ps_set (i := 2) sc_law_dice.nd rfl (Or.inl rfl) (pe_op op_add (pe_op op_mul (pe_int) (pv 1)) (pe_int)))
  (C8.pss_cut (ps_if (pt_cmpR op_lt (pv 1) (pe_callB call_lenS (by rfl) T.n_len (by decide +kernel) (pa_cons (pv 0) pa_nil)) (nomark _))
    (pss_one (ps_set (i := 2) sc_law_dice.nd rfl (Or.inl rfl) (pe_ix ix_list (pv 0) (pv 1) (fun _ _ => rfl))))
    (pss_nil))
  (pss_cons (ps_set (i := 3) sc_law_dice.nd rfl (Or.inl rfl) (pe_op op_mod (pe_callTy call_i1 (by rfl) T.n_int (by decide +kernel) (pa_cons (pe_callB call_ab (by rfl) T.n_abs (by decide +kernel) (pa_cons (pv 2) pa_nil)) pa_nil)) (pe_op op_powB (pe_op op_pow (pe_int) (pe_int)) (pe_int))))
  (pss_cons (ps_set (i := 4) sc_law_dice.nd rfl (Or.inl rfl) (pe_op op_fdivW (pv 3) (pe_op op_pow (pe_int) (pe_int))))
  (pss_cons (ps_set (i := 5) sc_law_dice.nd rfl (Or.inl rfl) (pe_op op_add (pe_op op_add (pe_op op_add (pe_op op_mul (pe_op op_mod (pv 3) (pe_int)) (pe_int)) (pe_op op_mul (pe_int) (pv 1))) (pe_op op_mul (pe_int) (pe_callTy call_i1 (by rfl) T.n_int (by decide +kernel) (pa_cons (pe_cmpR op_lt (pv 2) (pe_int) (nomark _)) pa_nil)))) (pe_int)))
  (pss_one (ps_ret (pe_lst (pa_cons (pv 4) (pa_cons (pe_op op_mod (pv 5) (pe_int)) (pa_cons (pe_int) pa_nil)))))))))), ?_⟩
  obtain ⟨ha, q⟩ := q
  walk_at "w"
  refine a_rI (.inl ⟨by decide, by decide⟩) ?_
  walk_at "w"
  refine a_cut (fun σ' H' => ∃ c : Int, σ' = [some (.ref a), some (.int (k : Int)), some (.int c), none, none, none] ∧ Same H H') ?_ ?_
  · walk_at "w"
    refine a_lenL ha ?_
    walk_at "w"
    refine d_ite (fun h0 => ?_) fun h0 => ?_
    · walk_at "w"
      have hk : k < ns.length := by rw [List.length_map] at h0; omega
      refine a_ixL ha (at_of (j := k) rfl (at_map (List.getElem?_eq_getElem hk))) ?_
      walk_at "w"
      exact ⟨_, rfl, Same.refl _⟩
    · walk_at "w"
      exact ⟨_, rfl, Same.refl _⟩
  intro σ' H' ⟨c, e, S1⟩
  subst e
  walk_at "w"
  refine a_rI (.inr ⟨by decide, by decide⟩) ?_
  walk_at "w"
  refine a_rI (.inl ⟨by decide, by decide⟩) ?_
  walk_at "w"
  refine a_rI (.inl ⟨by decide, by decide⟩) ?_
  walk_at "w"
  walk_at "t"
  intro p H2 n2 S2 e2
  exact q p H2 (S1.free n2) (S1.trans S2) ⟨_, _, _, e2⟩
theorem sc_law_roll : FnScope ["_law_dice_here", "_law_total", "_law_size", "_law_drawn", "_law_one", "_law_two"] ["_law_dice_here", "_law_total"] (defScope (top 103)) := ⟨rfl, rfl, rfl, by decide +kernel, rfl, by decide +kernel, by decide +kernel⟩
abbrev sp_law_roll : Sp := fun vs H Q _ => ∃ (d : Addr) (n : Int), vs = [.ref d, .int n] ∧ IsDi H d ∧ 0 < n ∧ n < 1073741824 ∧ ∀ r H', But d H H' → IsDi H' d → 0 ≤ r → r < n → Q (.int r) H'
theorem ok_law_roll (T : Txt w K mg base) : C8.Cal P w K mg base 1 "_law_roll" sp_law_roll [] := by
  refine cal_of T.f_law_roll T.m_law_roll sc_law_roll (fun vs H Q E h => ?_) (fun _ _ _ _ _ _ us hl => match us, hl with | [_, _], _ => rfl) fun cdv A outer s H vs Q E hr h => ?_
  · obtain ⟨_, _, rfl, _⟩ := h; rfl
  obtain ⟨d, n, rfl, q⟩ := h
  refine ⟨_, pss_cons (ps_set (i := 2) sc_law_roll.nd rfl (Or.inl rfl) (pe_callTy call_i1 (by rfl) T.n_int (by decide +kernel) (pa_cons (pv 1) pa_nil)))
  (pss_cons (ps_if (pt_cmpR op_gt (pe_ix ix_list (pv 0) (pe_int) (fun _ _ => rfl)) (pe_int) (nomark _))
    (pss_cons (ps_set (i := 3) sc_law_roll.nd rfl (Or.inl rfl) (pe_op op_mod (pe_ix ix_list (pv 0) (pe_int) (fun _ _ => rfl)) (pv 2)))
      (pss_cons (ps_asg (pe_op op_fdiv (pe_ix ix_list (pv 0) (pe_int) (fun _ _ => rfl)) (pv 2)) (pg_sub (pv 0) (pe_int) set_list))
      (pss_one (ps_ret (pe_callTy call_i1 (by rfl) T.n_int (by decide +kernel) (pa_cons (pv 3) pa_nil))))))
    (pss_nil))
  (pss_cons (ps_asg (pe_op op_add (pe_ix ix_list (pv 0) (pe_int) (fun _ _ => rfl)) (pe_int)) (pg_sub (pv 0) (pe_int) set_list))
  (pss_cons (ps_set (i := 4) sc_law_roll.nd rfl (Or.inl rfl) (pe_op op_mod (pe_op op_add (pe_ix ix_list (pv 0) (pe_int) (fun _ _ => rfl)) (pe_op op_mul (pe_int) (pe_ix ix_list (pv 0) (pe_int) (fun _ _ => rfl)))) (pe_int)))
  (pss_cons (ps_set (i := 5) sc_law_roll.nd rfl (Or.inl rfl) (pe_op op_add (pe_op op_mul (pe_op op_mod (pe_op op_mul (pv 4) (pv 4)) (pe_int)) (pv 4)) (pe_op op_mul (pe_int) (pe_ix ix_list (pv 0) (pe_int) (fun _ _ => rfl)))))
  (pss_cons (ps_set (i := 5) sc_law_roll.nd rfl (Or.inl rfl) (pe_op op_mod (pv 5) (pe_int)))
  (pss_one (ps_ret (pe_callTy call_i1 (by rfl) T.n_int (by decide +kernel) (pa_cons (pe_op op_mod (pe_op op_fdiv (pv 5) (pe_int)) (pv 2)) pa_nil))))))))), ?_⟩
  obtain ⟨⟨x, y, z, hd⟩, h0, h1, q⟩ := q
  walk_at "w"
  refine a_ixL (SqL.of hd) (at_of (j := 0) rfl rfl) ?_
  walk_at "w"
  refine d_ite (fun hx => ?_) fun hx => ?_
  · walk_at "w"
    refine a_ixL (SqL.of hd) (at_of (j := 0) rfl rfl) ?_
    walk_at "w"
    refine a_rI h0 ?_
    walk_at "w"
    refine a_ixL (SqL.of hd) (at_of (j := 0) rfl rfl) ?_
    walk_at "w"
    refine a_rI ⟨h0, h1⟩ ?_
    walk_at "w"
    refine a_setL hd (j := 0) rfl ?_
    walk_at "w"
    exact q _ _ (But.refl _ _).put ⟨_, _, _, upd_same⟩ (Int.emod_nonneg _ (by omega)) (Int.emod_lt_of_pos _ h0)
  walk_at "w"
  refine a_ixL (SqL.of hd) (at_of (j := 2) rfl rfl) ?_
  walk_at "w"
  refine a_setL hd (j := 2) rfl ?_
  have B1 : But d H (upd H d (.lst [.int x, .int y, .int (z + 1)])) := (But.refl _ _).put
  have hd1 : upd H d (.lst [.int x, .int y, .int (z + 1)]) d = some (.lst [.int x, .int y, .int (z + 1)]) := upd_same
  have e1 : ([V.int x, V.int y, V.int z].set 2 (V.int (z + 1))) = [V.int x, V.int y, V.int (z + 1)] := rfl
  rw [e1]
  generalize upd H d (.lst [.int x, .int y, .int (z + 1)]) = H1 at *
  walk_at "w"
  refine a_ixL (SqL.of hd1) (at_of (j := 1) rfl rfl) ?_
  walk_at "w"
  refine a_ixL (SqL.of hd1) (at_of (j := 2) rfl rfl) ?_
  walk_at "w"
  refine a_rI (.inl ⟨by decide, by decide⟩) ?_
  walk_at "w"
  have o1 := Int.emod_nonneg (y + 1000427 * (z + 1)) (show (2305843009213693951 : Int) ≠ 0 by decide)
  have o2 := Int.emod_lt_of_pos (y + 1000427 * (z + 1)) (show (0 : Int) < 2305843009213693951 by decide)
  generalize (y + 1000427 * (z + 1)) % 2305843009213693951 = one at *
  refine a_rI (.inl ⟨by omega, by omega⟩) ?_
  walk_at "w"
  refine a_rI (.inr ⟨by omega, by omega⟩) ?_
  walk_at "w"
  refine a_ixL (SqL.of hd1) (at_of (j := 2) rfl rfl) ?_
  walk_at "w"
  refine a_rI (.inl ⟨by decide, by decide⟩) ?_
  walk_at "w"
  generalize one * one % 2305843009213693921 * one + 9539 * (z + 1) = two
  generalize two % 2305843009213693907 = three
  walk_at "w"
  refine a_rI h0 ?_
  walk_at "w"
  exact q _ _ B1 ⟨_, _, _, hd1⟩ (Int.emod_nonneg _ (by omega)) (Int.emod_lt_of_pos _ h0)
theorem sc_law_one_of : FnScope ["_law_dice_here", "_law_items"] ["_law_dice_here", "_law_items"] (defScope (top 104)) := ⟨rfl, rfl, rfl, by decide +kernel, rfl, by decide +kernel, by decide +kernel⟩
abbrev sp_law_one_of (K : PySem.W.Frag) : Sp := fun vs H Q _ => ∃ (d a : Addr) (xs : List V), vs = [.ref d, .ref a] ∧ IsDi H d ∧ H a = some (.lst xs) ∧ a ≠ d ∧ (0 < xs.length ∧ xs.length < 1000) ∧ ∀ y H', But d H H' → IsDi H' d → y ∈ xs → Q y H'
theorem ok_law_one_of (T : Txt w K mg base) : C8.Cal P w K mg base 2 "_law_one_of" (sp_law_one_of K) [] := by
  refine cal_of T.f_law_one_of T.m_law_one_of sc_law_one_of (fun vs H Q E h => ?_) (fun _ _ _ _ _ _ us hl => match us, hl with | [_, _], _ => rfl) fun cdv A outer s H vs Q E hr h => ?_
  · obtain ⟨_, _, _, rfl, _⟩ := h; rfl
  obtain ⟨d, a, xs, rfl, q⟩ := h
  refine ⟨_, pss_one (ps_ret (pe_ix ix_list (pv 1) (C8.pe_c (ok_law_roll T) hr (by omega) rfl (pa_cons (pv 0) (pa_cons (pe_callB call_lenS (by rfl) T.n_len (by decide +kernel) (pa_cons (pv 1) pa_nil)) pa_nil))) (fun _ _ => rfl))), ?_⟩
  obtain ⟨hd, ha, hne, ⟨h0, h1⟩, q⟩ := q
  walk_at "w"
  refine a_lenL (SqL.of ha) ?_
  walk_at "w"
  refine ⟨d, (xs.length : Int), rfl, hd, by omega, by omega, fun r H1 B1 hd1 r0 r1 => ?_⟩
  obtain ⟨k, rfl⟩ := nn_eq r0
  have hk : k < xs.length := by omega
  refine a_ixL (SqL.of (B1 _ _ hne ha)) (at_of (j := k) rfl (List.getElem?_eq_getElem hk)) ?_
  exact q _ _ B1 hd1 (List.getElem_mem hk)
end
end K83
end
section
set_option maxRecDepth 100000
set_option maxHeartbeats 4000000
namespace K83
open PySem PySem.Spec PyProof.Rows L2
local macro_rules | `(tactic| walk_at "s") => `(tactic| first
  | with_reducible refine a_seq ?_ | ((with_reducible refine a_varX ?_); refine ⟨_, rfl, ?_⟩) | with_reducible refine a_c ?_ | with_reducible refine a_op ?_ | with_reducible refine a_rI0 ?_ | with_reducible refine a_cons ?_ | with_reducible refine a_nil ?_
  | with_reducible refine a_next ?_ | with_reducible refine a_ret ?_ | with_reducible refine a_retN ?_ | with_reducible refine a_drop ?_ | with_reducible refine a_if ?_ | with_reducible refine a_asg ?_ | with_reducible refine a_un ?_
  | with_reducible refine a_rU ?_ | with_reducible refine a_eqI ?_ | with_reducible refine a_neI ?_ | with_reducible refine a_eqS ?_ | with_reducible refine a_neS ?_ | with_reducible refine a_test ?_ | with_reducible refine a_tB ?_ | with_reducible refine a_bl ?_ | with_reducible refine a_int ?_
  | with_reducible refine a_and ?_ | with_reducible refine a_or ?_ | with_reducible refine a_not ?_ | with_reducible refine a_andV ?_ | with_reducible refine a_orV ?_ | with_reducible refine a_notV ?_ | with_reducible refine a_ifE ?_ | with_reducible refine a_chain ?_ | with_reducible refine a_call ?_ | with_reducible refine a_cb ?_ | with_reducible refine a_star ?_
  | ((with_reducible refine a_nameX ?_); refine ⟨_, (by simp only [L2.wipe, L2.start, List.map_cons, List.map_nil, List.length_cons, List.length_nil, List.replicate_succ, List.replicate_zero, Nat.reduceSub, Nat.reduceAdd, Nat.zero_add, List.cons_append, List.nil_append, List.set_cons_zero, List.set_cons_succ]; exact rfl), ?_⟩) | with_reducible refine a_gcons ?_ | with_reducible refine a_gnil ?_ | with_reducible refine a_gsub ?_ | with_reducible refine a_par ?_ | ((with_reducible refine a_parX rfl ?_); refine ⟨_, (by simp only [L2.wipe, L2.start, List.map_cons, List.map_nil, List.length_cons, List.length_nil, List.replicate_succ, List.replicate_zero, Nat.reduceSub, Nat.reduceAdd, Nat.zero_add, List.cons_append, List.nil_append, List.set_cons_zero, List.set_cons_succ]; exact rfl), ?_⟩) | ((with_reducible refine a_augX ?_); refine ⟨_, rfl, ?_⟩) | with_reducible refine a_ipI ?_ | with_reducible refine a_tup ?_ | with_reducible refine a_lst ?_ | with_reducible refine a_sl ?_ | with_reducible refine a_sslX ?_
  | with_reducible refine a_tsl ?_ | with_reducible refine a_noPart ?_ | with_reducible refine a_part ?_ | with_reducible refine a_i1 ?_ | with_reducible refine a_i1b ?_ | with_reducible refine a_mx ?_ | with_reducible refine a_mn ?_ | with_reducible refine a_ab ?_ | with_reducible refine a_mat ?_ | with_reducible refine a_case ?_
  | ((with_reducible refine a_oneS ?_ ?_); omega) | ((with_reducible refine a_mask 1 ?_ ?_); decide) | ((with_reducible refine a_mask 3 ?_ ?_); decide) | ((with_reducible refine a_mask 6 ?_ ?_); decide) | ((with_reducible refine a_mask 9 ?_ ?_); decide) | ((with_reducible refine a_rI ?_ ?_); first | exact ⟨by decide, by decide⟩ | decide)
  | ((with_reducible refine a_shlK 12 ?_ ?_ ?_); rfl; exact shl_small (by omega) (by omega) (by decide)) | ((with_reducible refine a_shlK 9 ?_ ?_ ?_); rfl; exact shl_small (by omega) (by omega) (by decide)) | ((with_reducible refine a_shlK 6 ?_ ?_ ?_); rfl; exact shl_small (by omega) (by omega) (by decide)) | with_reducible refine a_kdGet ?_
  | with_reducible refine a_bm0 ?_ | with_reducible refine a_bm ?_ | with_reducible refine a_dnewT ?_ | with_reducible refine a_gsl ?_ | with_reducible refine a_mk ?_
  | with_reducible refine a_dget2 ?_ | with_reducible refine a_dnewK ?_ | with_reducible refine a_tli ?_ | with_reducible refine a_pair ?_ | with_reducible refine a_pair0 ?_
  | with_reducible refine a_lc ?_ | with_reducible refine a_itup ?_ | with_reducible refine a_ilst ?_ | with_reducible refine a_yes ?_ | with_reducible refine a_iitems ?_ | with_reducible refine a_dc ?_ | with_reducible refine a_isN0 ?_ | with_reducible refine a_notN0 ?_ | with_reducible refine a_izip ?_ | with_reducible refine a_dget ?_ | with_reducible refine a_propSl ?_ | with_reducible refine a_methSl ?_ | with_reducible refine a_for ?_ | with_reducible refine a_rng1 ?_ | with_reducible refine a_rng2 ?_
  | with_reducible refine iteT ?_ | with_reducible refine iteF ?_)
local macro_rules | `(tactic| walk_at "t") => `(tactic| refine ⟨Nat.le_of_ble_eq_true rfl, a_new ?_⟩)
local macro_rules | `(tactic| walk_at "w") => `(tactic| repeat walk_at "s")
local macro_rules | `(tactic| walk_at "t0") => `(tactic| refine ⟨Nat.le_of_ble_eq_true rfl, ?_⟩)
theorem IsDi.ne0 {H : Hp} {d p : Addr} (h : IsDi H d) (n : H p = none) : p ≠ d := fun z => by
  obtain ⟨x, y, w, e⟩ := h
  rw [← z, n] at e
  cases e
theorem IsDi.tup {H H' : Hp} {d b : Addr} {xs : List V} (h : IsDi H d) (B : But d H H') (e : H b = some (.tup xs)) : H' b = some (.tup xs) := B _ _ (h.ne e fun _ z => HO.noConfusion z) e
theorem IsF.but {H H' : Hp} {d : Addr} (h : IsDi H d) (B : But d H H') : ∀ {f : Fm} {v : V}, IsF H v f → IsF H' v f
  | .num _, _, ⟨a, e, q⟩ => ⟨a, e, h.tup B q⟩
  | .cell _, _, ⟨a, e, q⟩ => ⟨a, e, h.tup B q⟩
  | .two _ _ _, _, ⟨a, x, y, e, q, l, r⟩ => ⟨a, x, y, e, h.tup B q, l.but h B, r.but h B⟩
def someV : List V := [.str "add", .str "sub", .str "and", .str "or", .str "xor", .str "less", .str "left", .str "right", .str "times", .str "add", .str "part", .str "rest"]
theorem someV_nm : ∀ y ∈ someV, ∃ j, j < 11 ∧ y = .str (nm j) := fun y h => by
  simp only [someV, List.mem_cons, List.not_mem_nil, or_false] at h
  rcases h with h | h | h | h | h | h | h | h | h | h | h | h
  · exact ⟨0, by decide, h⟩
  · exact ⟨1, by decide, h⟩
  · exact ⟨2, by decide, h⟩
  · exact ⟨3, by decide, h⟩
  · exact ⟨4, by decide, h⟩
  · exact ⟨5, by decide, h⟩
  · exact ⟨6, by decide, h⟩
  · exact ⟨7, by decide, h⟩
  · exact ⟨8, by decide, h⟩
  · exact ⟨0, by decide, h⟩
  · exact ⟨9, by decide, h⟩
  · exact ⟨10, by decide, h⟩
section
variable {P : Program} {w : World} {K : PySem.W.Frag} {mg : Str → Option Value} {base : Heap}
theorem sc_law_formula_drawn : FnScope ["_law_dice_here", "_law_nodes", "_law_way", "_law_some", "_law_left", "_law_one", "_law_other"] ["_law_dice_here", "_law_nodes"] (defScope (top 114)) := ⟨rfl, rfl, rfl, by decide +kernel, rfl, by decide +kernel, by decide +kernel⟩
abbrev sp_law_formula_drawn (N : Nat) : Sp := fun vs H Q _ => ∃ (d : Addr) (n : Nat), vs = [.ref d, .int (n : Int)] ∧ IsDi H d ∧ (1 ≤ n ∧ n ≤ N ∧ N ≤ 100) ∧ ∀ v f H', But d H H' → IsDi H' d → IsF H' v f → f.ok → f.cnt ≤ n → Q v H'
theorem ok_law_formula_drawn (T : Txt w K mg base) : ∀ N : Nat, C8.Cal P w K mg base (N + 3) "_law_formula_drawn" (sp_law_formula_drawn N) []
  | 0 => by
    refine cal_of T.f_law_formula_drawn T.m_law_formula_drawn sc_law_formula_drawn (fun vs H Q E h => ?_) (fun _ _ _ _ _ _ us hl => match us, hl with | [_, _], _ => rfl) fun cdv A outer s H vs Q E hr h => ?_
    · obtain ⟨_, _, rfl, _⟩ := h; rfl
    obtain ⟨d, n, rfl, hd, hn, q⟩ := h
    exact absurd hn (by omega)
  | N + 1 => by
    have ih := ok_law_formula_drawn T N
    refine cal_of T.f_law_formula_drawn T.m_law_formula_drawn sc_law_formula_drawn (fun vs H Q E h => ?_) (fun _ _ _ _ _ _ us hl => match us, hl with | [_, _], _ => rfl) fun cdv A outer s H vs Q E hr h => ?_
    · obtain ⟨_, _, rfl, _⟩ := h; rfl
    obtain ⟨d, n, rfl, hd, hn, q⟩ := h
    refine ⟨_, pss_cons (ps_if (PW.pt (pw_or (pt_cmpR op_lt (pv 1) (pe_int) (nomark _)) (pw_or1 (pt_cmpR op_eq (C8.pe_c (ok_law_roll T) hr (by omega) rfl (pa_cons (pv 0) (pa_cons (pe_int) pa_nil))) (pe_int) (nomark _)))))
    (pss_cons (ps_set (i := 2) sc_law_formula_drawn.nd rfl (Or.inl rfl) (C8.pe_c (ok_law_roll T) hr (by omega) rfl (pa_cons (pv 0) (pa_cons (pe_int) pa_nil))))
      (pss_one (ps_ret (pe_ifExp (pt_cmpR op_eq (pv 2) (pe_int) (nomark _)) (pe_tup (pa_cons (pe_str) (pa_cons (C8.pe_c (ok_law_roll T) hr (by omega) rfl (pa_cons (pv 0) (pa_cons (pe_int) pa_nil))) pa_nil))) (pe_tup (pa_cons (pe_str) (pa_cons (pe_op op_sub (C8.pe_c (ok_law_roll T) hr (by omega) rfl (pa_cons (pv 0) (pa_cons (pe_int) pa_nil))) (pe_int)) pa_nil)))))))
    (pss_nil))
  (pss_cons (ps_set (i := 3) sc_law_formula_drawn.nd rfl (Or.inl rfl) (pe_lst (pa_cons (pe_str) (pa_cons (pe_str) (pa_cons (pe_str) (pa_cons (pe_str) (pa_cons (pe_str) (pa_cons (pe_str) (pa_cons (pe_str) (pa_cons (pe_str) (pa_cons (pe_str) (pa_cons (pe_str) (pa_cons (pe_str) (pa_cons (pe_str) pa_nil))))))))))))))
  (pss_cons (ps_set (i := 4) sc_law_formula_drawn.nd rfl (Or.inl rfl) (C8.pe_c (ok_law_one_of T) hr (by omega) rfl (pa_cons (pv 0) (pa_cons (pe_lst (pa_cons (pe_int) (pa_cons (pe_op op_fdiv (pe_op op_sub (pv 1) (pe_int)) (pe_int)) (pa_cons (pe_op op_fdiv (pe_op op_sub (pv 1) (pe_int)) (pe_int)) (pa_cons (pe_op op_add (pe_int) (C8.pe_c (ok_law_roll T) hr (by omega) rfl (pa_cons (pv 0) (pa_cons (pe_op op_sub (pv 1) (pe_int)) pa_nil)))) (pa_cons (pe_op op_sub (pv 1) (pe_int)) pa_nil)))))) pa_nil))))
  (pss_cons (ps_par (i := 5) (j := 6) rfl sc_law_formula_drawn.nd rfl rfl (by decide) rfl rfl (pa_cons (C8.pe_c (ih) hr (by omega) rfl (pa_cons (pv 0) (pa_cons (pv 4) pa_nil))) (pa_cons (C8.pe_c (ih) hr (by omega) rfl (pa_cons (pv 0) (pa_cons (pe_op op_sub (pe_op op_sub (pv 1) (pe_int)) (pv 4)) pa_nil))) pa_nil)) rfl)
  (pss_one (ps_ret (pe_tup (pa_cons (pe_str) (pa_cons (C8.pe_c (ok_law_one_of T) hr (by omega) rfl (pa_cons (pv 0) (pa_cons (pv 3) pa_nil))) (pa_cons (pv 5) (pa_cons (pv 6) pa_nil)))))))))), ?_⟩
    walk_at "w"
    refine d_ite (fun h3 => ?_) fun h3 => ?_
    · walk_at "w"
      refine ⟨d, 3, rfl, hd, by decide, by decide, fun r H2 B2 hd2 r0 r1 => ?_⟩
      walk_at "w"
      refine d_ite (fun hw => ?_) fun hw => ?_
      · walk_at "w"
        refine ⟨d, 32, rfl, hd2, by decide, by decide, fun r3 H3 B3 hd3 r30 r31 => ?_⟩
        walk_at "w"
        walk_at "t"
        intro p H4 n4 S4 e4
        exact q _ (.cell r3) H4 ((B2.trans B3).same S4) (hd3.same S4) ⟨p, rfl, e4⟩ ⟨by omega, by omega⟩ hn.1
      · walk_at "w"
        refine ⟨d, 512, rfl, hd2, by decide, by decide, fun r3 H3 B3 hd3 r30 r31 => ?_⟩
        walk_at "w"
        walk_at "t"
        intro p H4 n4 S4 e4
        exact q _ (.num (r3 - 256)) H4 ((B2.trans B3).same S4) (hd3.same S4) ⟨p, rfl, e4⟩ ⟨by omega, by omega⟩ hn.1
    walk_at "w"
    refine ⟨d, 9, rfl, hd, by decide, by decide, fun r1 H1 B1 hd1 r10 r11 => ?_⟩
    walk_at "w"
    refine d_ite (fun h9 => ?_) fun h9 => ?_
    · walk_at "w"
      refine ⟨d, 3, rfl, hd1, by decide, by decide, fun r H2 B2 hd2 r0 r1 => ?_⟩
      walk_at "w"
      refine d_ite (fun hw => ?_) fun hw => ?_
      · walk_at "w"
        refine ⟨d, 32, rfl, hd2, by decide, by decide, fun r3 H3 B3 hd3 r30 r31 => ?_⟩
        walk_at "w"
        walk_at "t"
        intro p H4 n4 S4 e4
        exact q _ (.cell r3) H4 (((B1.trans B2).trans B3).same S4) (hd3.same S4) ⟨p, rfl, e4⟩ ⟨by omega, by omega⟩ hn.1
      · walk_at "w"
        refine ⟨d, 512, rfl, hd2, by decide, by decide, fun r3 H3 B3 hd3 r30 r31 => ?_⟩
        walk_at "w"
        walk_at "t"
        intro p H4 n4 S4 e4
        exact q _ (.num (r3 - 256)) H4 (((B1.trans B2).trans B3).same S4) (hd3.same S4) ⟨p, rfl, e4⟩ ⟨by omega, by omega⟩ hn.1
    walk_at "w"
    refine ⟨Nat.le_of_ble_eq_true rfl, a_new fun pa H2 n2 S2 e2 => ?_⟩
    have hd2 := hd1.same S2
    have na := hd1.ne0 n2
    have B2 := B1.same S2
    change H2 pa = some (.lst someV) at e2
    walk_at "w"
    refine ⟨d, (n : Int) - 2, rfl, hd2, by omega, by omega, fun r3 H3 B3 hd3 r30 r31 => ?_⟩
    walk_at "w"
    refine ⟨Nat.le_of_ble_eq_true rfl, a_new fun pb H4 n4 S4 e4 => ?_⟩
    walk_at "w"
    refine ⟨d, pb, _, rfl, hd3.same S4, e4, hd3.ne0 n4, ⟨show 0 < 5 by decide, show 5 < 1000 by decide⟩, fun y H5 B5 hd5 hy => ?_⟩
    obtain ⟨k, rfl, k1, k2⟩ : ∃ k : Nat, y = .int (k : Int) ∧ 1 ≤ k ∧ k + 2 ≤ n := by
      simp only [List.mem_cons, List.not_mem_nil, or_false] at hy
      rcases hy with h | h | h | h | h
      · exact ⟨1, h, by omega, by omega⟩
      · exact ⟨(((n : Int) - 1) / 2).toNat, by rw [h]; congr 1; omega, by omega, by omega⟩
      · exact ⟨(((n : Int) - 1) / 2).toNat, by rw [h]; congr 1; omega, by omega, by omega⟩
      · exact ⟨(1 + r3).toNat, by rw [h]; congr 1; omega, by omega, by omega⟩
      · exact ⟨((n : Int) - 2).toNat, by rw [h]; congr 1; omega, by omega, by omega⟩
    have B05 := ((B2.trans B3).same S4).trans B5
    have e5 : H5 pa = some (.lst someV) := B5 _ _ na (S4 _ _ (B3 _ _ na e2))
    walk_at "w"
    refine ⟨d, k, rfl, hd5, ⟨k1, by omega, by omega⟩, fun v6 f6 H6 B6 hd6 i6 o6 c6 => ?_⟩
    walk_at "w"
    refine ⟨d, n - 1 - k, by rw [show ((n - 1 - k : Nat) : Int) = (n : Int) - 1 - (k : Int) by omega]; rfl, hd6, ⟨by omega, by omega, by omega⟩, fun v7 f7 H7 B7 hd7 i7 o7 c7 => ?_⟩
    walk_at "w"
    refine ⟨d, pa, someV, rfl, hd7, B7 _ _ na (B6 _ _ na e5), na, ⟨by decide, by decide⟩, fun y H8 B8 hd8 hy => ?_⟩
    obtain ⟨j, hj, rfl⟩ := someV_nm y hy
    walk_at "w"
    walk_at "t"
    intro p H9 n9 S9 e9
    refine q _ (.two j f6 f7) H9 ((((B05.trans B6).trans B7).trans B8).same S9) (hd8.same S9) ⟨p, v6, v7, rfl, e9, ((i6.but hd6 B7).but hd7 B8).same S9, (i7.but hd7 B8).same S9⟩ ⟨hj, o6, o7⟩ ?_
    rw [Fm.cnt_two]
    omega
end
end K83
end
section
set_option maxRecDepth 100000
set_option maxHeartbeats 4000000
namespace K83
open PySem PySem.Spec PyProof.Rows L2
local macro_rules | `(tactic| walk_at "s") => `(tactic| first
  | with_reducible refine a_seq ?_ | ((with_reducible refine a_varX ?_); refine ⟨_, rfl, ?_⟩) | with_reducible refine a_c ?_ | with_reducible refine a_op ?_ | with_reducible refine a_rI0 ?_ | with_reducible refine a_cons ?_ | with_reducible refine a_nil ?_
  | with_reducible refine a_next ?_ | with_reducible refine a_ret ?_ | with_reducible refine a_retN ?_ | with_reducible refine a_drop ?_ | with_reducible refine a_if ?_ | with_reducible refine a_asg ?_ | with_reducible refine a_un ?_
  | with_reducible refine a_rU ?_ | with_reducible refine a_eqI ?_ | with_reducible refine a_neI ?_ | with_reducible refine a_eqS ?_ | with_reducible refine a_neS ?_ | with_reducible refine a_test ?_ | with_reducible refine a_tB ?_ | with_reducible refine a_bl ?_ | with_reducible refine a_int ?_
  | with_reducible refine a_and ?_ | with_reducible refine a_or ?_ | with_reducible refine a_not ?_ | with_reducible refine a_andV ?_ | with_reducible refine a_orV ?_ | with_reducible refine a_notV ?_ | with_reducible refine a_ifE ?_ | with_reducible refine a_chain ?_ | with_reducible refine a_call ?_ | with_reducible refine a_cb ?_ | with_reducible refine a_star ?_
  | ((with_reducible refine a_nameX ?_); refine ⟨_, (by simp only [L2.wipe, L2.start, List.map_cons, List.map_nil, List.length_cons, List.length_nil, List.replicate_succ, List.replicate_zero, Nat.reduceSub, Nat.reduceAdd, Nat.zero_add, List.cons_append, List.nil_append, List.set_cons_zero, List.set_cons_succ]; exact rfl), ?_⟩) | with_reducible refine a_gcons ?_ | with_reducible refine a_gnil ?_ | with_reducible refine a_gsub ?_ | with_reducible refine a_par ?_ | ((with_reducible refine a_parX rfl ?_); refine ⟨_, (by simp only [L2.wipe, L2.start, List.map_cons, List.map_nil, List.length_cons, List.length_nil, List.replicate_succ, List.replicate_zero, Nat.reduceSub, Nat.reduceAdd, Nat.zero_add, List.cons_append, List.nil_append, List.set_cons_zero, List.set_cons_succ]; exact rfl), ?_⟩) | ((with_reducible refine a_augX ?_); refine ⟨_, rfl, ?_⟩) | with_reducible refine a_ipI ?_ | with_reducible refine a_tup ?_ | with_reducible refine a_lst ?_ | with_reducible refine a_sl ?_ | with_reducible refine a_sslX ?_
  | with_reducible refine a_tsl ?_ | with_reducible refine a_noPart ?_ | with_reducible refine a_part ?_ | with_reducible refine a_i1 ?_ | with_reducible refine a_i1b ?_ | with_reducible refine a_mx ?_ | with_reducible refine a_mn ?_ | with_reducible refine a_ab ?_ | with_reducible refine a_mat ?_ | with_reducible refine a_case ?_
  | ((with_reducible refine a_oneS ?_ ?_); omega) | ((with_reducible refine a_mask 1 ?_ ?_); decide) | ((with_reducible refine a_mask 3 ?_ ?_); decide) | ((with_reducible refine a_mask 6 ?_ ?_); decide) | ((with_reducible refine a_mask 9 ?_ ?_); decide) | ((with_reducible refine a_rI ?_ ?_); first | exact ⟨by decide, by decide⟩ | decide)
  | ((with_reducible refine a_shlK 12 ?_ ?_ ?_); rfl; exact shl_small (by omega) (by omega) (by decide)) | ((with_reducible refine a_shlK 9 ?_ ?_ ?_); rfl; exact shl_small (by omega) (by omega) (by decide)) | ((with_reducible refine a_shlK 6 ?_ ?_ ?_); rfl; exact shl_small (by omega) (by omega) (by decide)) | with_reducible refine a_kdGet ?_
  | with_reducible refine a_bm0 ?_ | with_reducible refine a_bm ?_ | with_reducible refine a_dnewT ?_ | with_reducible refine a_gsl ?_ | with_reducible refine a_mk ?_
  | with_reducible refine a_dget2 ?_ | with_reducible refine a_dnewK ?_ | with_reducible refine a_tli ?_ | with_reducible refine a_pair ?_ | with_reducible refine a_pair0 ?_
  | with_reducible refine a_lc ?_ | with_reducible refine a_itup ?_ | with_reducible refine a_ilst ?_ | with_reducible refine a_yes ?_ | with_reducible refine a_iitems ?_ | with_reducible refine a_dc ?_ | with_reducible refine a_isN0 ?_ | with_reducible refine a_notN0 ?_ | with_reducible refine a_izip ?_ | with_reducible refine a_dget ?_ | with_reducible refine a_propSl ?_ | with_reducible refine a_methSl ?_ | with_reducible refine a_for ?_ | with_reducible refine a_rng1 ?_ | with_reducible refine a_rng2 ?_
  | with_reducible refine iteT ?_ | with_reducible refine iteF ?_)
local macro_rules | `(tactic| walk_at "t") => `(tactic| refine ⟨Nat.le_of_ble_eq_true rfl, a_new ?_⟩)
local macro_rules | `(tactic| walk_at "w") => `(tactic| repeat walk_at "s")
local macro_rules | `(tactic| walk_at "t0") => `(tactic| refine ⟨Nat.le_of_ble_eq_true rfl, ?_⟩)
/-! ## several clauses «except x as n» -/
/-- what the clauses wish of an exception of the body, one behind the other; slot i is n's, empty behind a suite -/
def wAsMany (K : PySem.W.Frag) (i : Nat) (Wo : WX) (D : Ends) : List (Value × (Addr → Value → Option Addr → L2.TS)) → WX
  | [] => Wo
  | q :: l => fun cls d σ H => ∃ b, PySem.W.exmOne K cls q.1 = some b ∧
      (b = true → ∀ a, H a = none → q.2 a cls d ⟨fun σ' H' => D.nx (σ'.set i none) H', D.rt, fun σ' H' => D.bk (σ'.set i none) H', fun σ' H' => D.ct (σ'.set i none) H'⟩ (σ.set i (some (.ref a))) H) ∧ (b = false → wAsMany K i Wo D l cls d σ H)
inductive ClsOk (X : Cx) (n : Str) : List ExceptHandler → List (Value × (Addr → Value → Option Addr → L2.TS)) → Prop
  | nil : ClsOk X n [] []
  | cons {x : Str} {c : Value} {ts : Addr → Value → Option Addr → L2.TS} {b0 : Stmt} {su : List Stmt} {np hp : Pos} {hds : List ExceptHandler} {l : List (Value × (Addr → Value → Option Addr → L2.TS))} (hc : Names X x c)
      (hs : ∀ (a : Addr) (oe : Obj) (cls : Value) (d : Option Addr) (pn : List (Addr × Obj)), Zc cls d oe → (∃ vs, oe.data = .fields vs) → PSs (X.suite a ((a, oe) :: pn)) (b0 :: su) (ts a cls d)) (r : ClsOk X n hds l) : ClsOk X n (.ExceptHandler (some (.Name x np)) (some n) (b0 :: su) hp :: hds) ((c, ts) :: l)
section
variable {X : Cx} {n : Str} {i : Nat} {Wo : WX} {D : Ends} {pins : List (Addr × Obj)} {a : Addr} {B : Heap} {cls : Value} {d : Option Addr}
/-- the clauses, looked through from the state s, where the exception at a lies on the ground -/
theorem handle_as (hfr : X.A.frames = some (X.env :: X.outer)) (hst : X.stack = X.env :: X.outer) (hf : X.env.frame = some X.env.locals) (hN : X.N.Nodup) (hi : X.N[i]? = some n) (hln : X.env.kindOf n = some .local) (tk : Takes X Wo) (ok : X.Ok)
    {σ : L2.St} {H : Hp} {s0 s : Shared} (J0 : Inv X pins σ H s0) (J : Inv X pins σ H s) (nb : ∀ b o, s0.heap.get? b = some o → b ∉ frs X.stack → B.get? b = some o) (up : s0.heap.UpToSlots s.heap) (fl : HandSPX.FlyingZ B (X.env :: X.outer) a (Zc cls d) s.heap)
    (na : H a = none) (offL : a ≠ X.env.locals) (offF : a ∉ X.fs) (os : s.os = s0.os) (ag : AllBare s.gens) {hds : List ExceptHandler} {l : List (Value × (Addr → Value → Option Addr → L2.TS))} (hk : ClsOk X n hds l) (w : wAsMany X.K i Wo D l cls d σ H) :
    wpAny (model X.prog X.w) X.A (handleBy (.ref a) X.env hds) (SP X pins D) X.xe s := by
  induction hk with
  | nil =>
    obtain ⟨_, _, _, oe, vs, T, oT, ts, he, _, hd, h1, _⟩ := id fl
    refine wpAny_handleBy_nil ?_
    unfold PySem.passOn
    refine wpAny_bind (wpAny_field he hd h1 ?_)
    rw [if_neg (show ¬ ((Value.ref T == Value.none) = true) by simp)]
    have last : wpAny (model X.prog X.w) X.A (setFlight (.ref a) X.env.frame) (fun _ s4 => wpAny (model X.prog X.w) X.A (throw (.ref a) : Sem Flow) (SP X pins D) X.xe s4) X.xe s := by
      rw [hf]
      exact HandSPX.setFlight_upZ fl fun h4 hh4 upMore => wpAny_throw (tk _ _ ⟨a, B, s0, pins, σ, H, cls, d, rfl, J0, nb, up.trans upMore, .inr (.inr (by rw [hst]; exact hh4)), na, os, ag, w⟩)
    first
      | exact wpAny_bind (wpAny_pure (wpAny_bind last))
      | exact wpAny_bind last
  | @cons x c ts b0 su np hp hds2 l2 hc hs r ih =>
    obtain ⟨b, hb, yes, no⟩ := w
    obtain ⟨x3, r3, at3, is3, has3⟩ := fl.there
    refine wpAny_handleBy_cons (codeAny_handlers_test ?_) (by intro q; cases q)
    have ty : PySem.W.Looks (model X.prog X.w) s.heap (typeOf (.ref a)) cls := fun A Q E s' k q => wpAny_typeOf_ref (k _ _ at3) (by rw [is3.1]; exact q)
    have hit := PySem.W.exm_one (M := model X.prog X.w) J.kIn ty hb
    have S3 := J.suite at3 has3 na offL offF
    have name : ∀ {Q : Value → Shared → Prop} {E : Value → Shared → Prop}, Q c s → wpAny (model X.prog X.w) (X.A.mark (some (.ref a))) (eval (.Name x np) X.env) Q E s := fun {Q E} q => by
      rcases hc with ⟨g1, g2, m | ⟨m, v, nn⟩⟩
      · exact ld_glob (X := X.suite a ((a, x3) :: (X.pn ++ pins))) S3 g1 m q g2
      · exact ld_blt (X := X.suite a ((a, x3) :: (X.pn ++ pins))) S3 g1 m v q nn g2
    refine name (hit.here ?_)
    cases b with
    | false => exact ih (no rfl)
    | true =>
      refine codeAny_handlers_suite_as (HandSPX.lands_againZ fl fun h4 again upMore => ?_)
      have J4 : Inv X pins σ H { s with heap := h4 } := J0.landed nb again.1 (up.trans upMore) os ag
      obtain ⟨x4, r4, at4, is4, has4⟩ := again.there
      refine store_ok (X := X.suite a ((a, x4) :: (X.pn ++ pins))) (v := .ref a) (J4.suite at4 has4 na offL offF) hN hi (.inl hln) rfl (fun s5 S5 => ?_) (.inr hln)
      refine wpAny_mono ((hs a x4 cls d (X.pn ++ pins) is4 ⟨_, has4⟩).run [] s5 _ H _ S5 (yes rfl a na)) (fun f s6 back => ?_) fun _ _ z => z.elim
      have fin : ∀ {σ6 : L2.St} {H6 : Hp} {Q : Shared → Prop}, Inv (X.suite a ((a, x4) :: (X.pn ++ pins))) [] σ6 H6 s6 → (∀ s7, Inv X pins (σ6.set i none) H6 s7 → Q s7) →
          wpAny (model X.prog X.w) X.A (do bindName X.env n .none; unbindBehindTheSuite X.env n hp) (fun _ s7 => Q s7) X.xe s6 := fun S6 hq => gone_ok (S6.unsuite ok) hN hi hln hq
      cases f with
      | next => obtain ⟨_, _, S6, q⟩ := back; exact fin S6 fun s7 J7 => ⟨_, _, J7, q⟩
      | brk => obtain ⟨_, _, S6, q⟩ := back; exact fin S6 fun s7 J7 => ⟨_, _, J7, q⟩
      | cont => obtain ⟨_, _, S6, q⟩ := back; exact fin S6 fun s7 J7 => ⟨_, _, J7, q⟩
      | ret u => obtain ⟨_, _, _, S6, rv, q⟩ := back; exact fin S6 fun s7 J7 => ⟨_, _, _, J7, rv, q⟩
/-- try: body / except x as n: .. / except y as n: .. -/
theorem ps_try_asN {body : List Stmt} {h0 : ExceptHandler} {hds : List ExceptHandler} {l : List (Value × (Addr → Value → Option Addr → L2.TS))} {pos : Pos} {tb : WX → L2.TS} (hst : X.stack = X.env :: X.outer) (hf : X.env.frame = some X.env.locals) (hN : X.N.Nodup) (hi : X.N[i]? = some n) (hln : X.env.kindOf n = some .local) (tk : Takes X Wo)
    (hb : ∀ (W : WX) (pn : List (Addr × Obj)) (xe : Value → Shared → Prop), Takes (X.tr pn xe) W → PassesOwn (model X.prog X.w) X.A X.env xe → PSs (X.tr pn xe) body (tb W)) (hh : ClsOk X n (h0 :: hds) l) :
    PS X (.Try body (h0 :: hds) [] [] pos) (fun D σ H => tb (wAsMany X.K i Wo D l) D σ H) := by
  refine ⟨fun pins s σ H D I h => ?_⟩
  have ok := I.ok
  have hfr : X.A.frames = some (X.env :: X.outer) := by rw [ok.frames, hst]
  refine wpAny_Try_except (wpAny_mono ((hb (wAsMany X.K i Wo D l) (X.pn ++ pins) (fun e s₁ => wpAny (model X.prog X.w) X.A (noteFrame e X.env) (fun _ s₂ => wpAny (model X.prog X.w) X.A (setFlight e none) (fun _ s₃ =>
    wpAny (model X.prog X.w) X.A (handleBy e X.env (h0 :: hds)) (SP X pins D) X.xe s₃) X.xe s₂) X.xe s₁) (fun u s' xx => ?_) PassesOwn.looking).run [] s σ H D (I.toTry _) h) (fun f s1 back => ?_) fun e s1 he => he)
  · obtain ⟨a, B, sI, pins', σ', H', cls, d, rfl, J', nb, up, sky, na, os, ag, w⟩ := xx
    have J := J'.ofTry ok (pins := pins)
    have air : Sky B (X.env :: X.outer) a (Zc cls d) X.env.locals s'.heap := hst ▸ sky
    refine Sky.land Zc.steady hfr hf air fun ground lies upTo => ?_
    obtain ⟨x3, r3, at3, is3, has3⟩ := lies.there
    have offFr : a ∉ frs (X.env :: X.outer) := fun hm => by
      obtain ⟨_, o', e', hnf⟩ := lies.2.2.1.mem hm
      rw [at3] at e'
      cases e'
      exact hnf _ has3
    have offL : a ≠ X.env.locals := fun z => offFr (List.mem_filterMap.mpr ⟨X.env, List.mem_cons_self, by rw [hf, z]⟩)
    have offF : a ∉ X.fs := fun hm => by
      obtain ⟨e, he, q⟩ := List.mem_filterMap.mp hm
      exact offFr (List.mem_filterMap.mpr ⟨e, List.mem_cons_of_mem _ he, q⟩)
    have JG : Inv X pins σ' H' { s' with heap := ground } := J.landed nb lies.1 (up.trans upTo) os ag
    exact handle_as (s := { s' with heap := ground }) hfr hst hf hN hi hln tk ok J JG nb (up.trans upTo) lies na offL offF os ag hh w
  · cases f with
    | next => obtain ⟨_, _, J', q⟩ := back; exact wpAny_execs_nil ⟨_, _, J'.ofTry ok, q⟩
    | brk => obtain ⟨_, _, J', q⟩ := back; exact ⟨_, _, J'.ofTry ok, q⟩
    | cont => obtain ⟨_, _, J', q⟩ := back; exact ⟨_, _, J'.ofTry ok, q⟩
    | ret u => obtain ⟨_, _, _, J', rv, q⟩ := back; exact ⟨_, _, _, J'.ofTry ok, rv, q⟩
end
/-! ## formula_steps -/
section
variable {K : PySem.W.Frag} {n : L2.St → Hp → Prop} {r : VK} {bk ct : L2.St → Hp → Prop} {σ : L2.St} {H : Hp} {Q : VK} {D : Ends}
theorem a_lstRg {ta tb : TE} (h : ta σ H fun x H1 => tb σ H1 fun y H2 => ∃ i j, x = .int i ∧ y = .int j ∧ RgOk i j ∧ newO (.lst (rgV i j)) Q H2) : tLstRg (tRg2 ta tb) σ H Q := h
theorem a_raise {W : WX} {t : L2.St → Hp → XK → Prop} (h : t σ H fun cls d H' => W cls d σ H') : (fun (_ : Ends) σ H => t σ H fun cls d H' => W cls d σ H') D σ H := h
theorem a_mkS {C : Addr} {fld : Str} {ta : TA} {R : XK} (h : ta σ H fun vs H1 => ∃ v, vs = [v] ∧ ∀ d, H1 d = none → R (.ref C) (some d) (upd H1 d (.xd [(fld, v)]))) : tMkSup C fld ta σ H R := h
theorem a_mkD {C : Addr} {fld : Str} {v : V} {R : XK} {H1 : Hp} (h : ∀ d H2, Same H1 H2 → H2 d = some (.xd [(fld, v)]) → R (.ref C) (some d) H2) : ∃ u, [v] = [u] ∧ ∀ d, H1 d = none → R (.ref C) (some d) (upd H1 d (.xd [(fld, u)])) :=
  ⟨v, rfl, fun d n => h d _ (same_new n) upd_same⟩
end
theorem supT_Refused : SupT "reason" (defArgs (inClass (top 11) 0)) (defBody (inClass (top 11) 0)) (defScope (inClass (top 11) 0)) :=
  ⟨⟨_, _, _, _, _, _, _, _, _, _, rfl, fun _ _ _ _ _ => ⟨_, rfl⟩⟩, ⟨_, _, rfl⟩, rfl, fun _ _ _ _ _ _ _ _ _ => rfl, by decide +kernel, by decide +kernel, by decide +kernel, by decide +kernel, by decide +kernel⟩
theorem supT_TooMany : SupT "limit" (defArgs (inClass (top 10) 0)) (defBody (inClass (top 10) 0)) (defScope (inClass (top 10) 0)) :=
  ⟨⟨_, _, _, _, _, _, _, _, _, _, rfl, fun _ _ _ _ _ => ⟨_, rfl⟩⟩, ⟨_, _, rfl⟩, rfl, fun _ _ _ _ _ _ _ _ _ => rfl, by decide +kernel, by decide +kernel, by decide +kernel, by decide +kernel, by decide +kernel⟩
theorem rgV_nat (h : Nat) : rgV 1 ((h : Int) + 1) = natV (List.range' 1 h) := by
  unfold rgV natV
  rw [show (((h : Int) + 1) - 1).toNat = h by omega, List.range'_eq_map_range, List.map_map]
  refine List.map_congr_left fun i _ => ?_
  show V.int (1 + (i : Nat)) = V.int ((1 + i : Nat) : Int)
  congr 1
section
variable {P : Program} {w : World} {K : PySem.W.Frag} {mg : Str → Option Value} {base : Heap}
theorem sc_formula_steps : FnScope ["shape", "formula", "height", "most"] ["shape", "formula"] (defScope (top 74)) := ⟨rfl, rfl, rfl, by decide +kernel, rfl, by decide +kernel, by decide +kernel⟩
abbrev sp_formula_steps (K : PySem.W.Frag) : Sp := fun vs H Q E => ∃ (sv v : V) (m R : Nat) (f : Fm), vs = [sv, v] ∧ IsSh K H sv m R ∧ (4 ≤ m ∧ m ≤ 16) ∧ (R = 2 ∨ R = 4 ∨ R = 8) ∧ IsF H v f ∧ f.ok ∧ f.cnt ≤ 60 ∧
  (¬ f.ht ≤ R - 1 → ∀ d p H', Same H H' → H' p = some (.tup [.str "registers", .int (f.ht : Int)]) → H' d = some (.xd [("reason", .ref p)]) → E (.ref (He.ga K "Refused")) (some d) H') ∧
  (f.ht ≤ R - 1 → 2 ^ m ≤ f.cnt → ∀ d H', Same H H' → H' d = some (.xd [("limit", .int (2 ^ m - 1))]) → E (.ref (He.ga K "TooMany")) (some d) H') ∧
  (f.ht ≤ R - 1 → f.cnt < 2 ^ m → ∀ p H', Same H H' → H' p = some (.tup (wordsV (comp f (List.range' 1 f.ht)))) → Q (.ref p) H')
theorem fn_formula_steps (T : Txt w K mg base) (pP : PrO P) : ∃ fd, FnOk P w K mg base (L2.CX P w) 130 (He.ga K "formula_steps") fd ["shape", "formula"] (sp_formula_steps K) ∧ L2.Binds K fd ["shape", "formula"] [] ∧ PySem.W.keepIn K (.ref (He.ga K "formula_steps")) = true := by
  obtain ⟨fd, F⟩ := T.f_formula_steps
  refine ⟨fd, F.ok sc_formula_steps (fun vs H Q E h => ?_) fun cdv A outer s H vs Q E hr h => ?_, F.bindsN fun _ _ _ _ _ _ us hl => match us, hl with | [_, _], _ => rfl, F.kp⟩
  · obtain ⟨_, _, _, _, _, rfl, _⟩ := h; rfl
  obtain ⟨sv, v, m, R, f, rfl, hs, hm, hR, hf, ho, hc, q1, q2, q3⟩ := h
  refine ⟨_, pss_cons (ps_expr (C8.pe_c (ok_require_shape T) hr (by omega) rfl (pa_cons (pv 0) pa_nil)))
  (pss_cons (ps_expr (C8.pe_c (ok_require_formula T) hr (by omega) rfl (pa_cons (pv 1) pa_nil)))
  (pss_cons (ps_set (i := 2) sc_formula_steps.nd rfl (Or.inl rfl) (C8.pe_c (ok_height_in T 60) hr (by omega) rfl (pa_cons (pv 1) pa_nil)))
  (pss_cons (ps_if (pt_cmpR op_gt (pv 2) (pe_op op_sub (SlX.pe_sl (pv 0)) (pe_int)) (nomark _))
    (pss_one (ps_raise rfl (takes_of rfl rfl rfl rfl) (pmk_sup (k := 1) (T.x_Refused pP).1 supT_Refused PySem.F.store_ArithmeticError PySem.F.excBase_ArithmeticError PySem.W.kxs_ArithmeticError T.m_Refused T.n_super (hr.mono (by decide)) (pa_cons (pe_tup (pa_cons pe_str (pa_cons (pv 2) pa_nil))) pa_nil) rfl)))
    (pss_nil))
  (pss_cons (ps_set (i := 3) sc_formula_steps.nd rfl (Or.inl rfl) (pe_op op_sub (pe_op op_oneS (pe_int) (SlX.pe_sl (pv 0))) (pe_int)))
  (pss_cons (ps_if (pt_cmpR op_gt (pe_callB call_len_dT (by rfl) T.n_len (by decide +kernel) (pa_cons (C8.pe_c (ok_nodes_of T) hr (by omega) rfl (pa_cons (pv 1) pa_nil)) pa_nil)) (pv 3) (nomark _))
    (pss_one (ps_raise rfl (takes_of rfl rfl rfl rfl) (pmk_sup (k := 1) (T.x_TooMany pP).1 supT_TooMany PySem.F.store_OverflowError PySem.F.excBase_OverflowError PySem.W.kxs_OverflowError T.m_TooMany T.n_super (hr.mono (by decide)) (pa_cons (pv 3) pa_nil) rfl)))
    (pss_nil))
  (pss_one (ps_ret (pe_callTy call_tupOf (by rfl) T.n_tuple (by decide +kernel) (pa_cons (C8.pe_c (ok_words_in T 60) hr (by omega) rfl (pa_cons (pv 1) (pa_cons (pe_listRg rfl (by rfl) T.n_list (prg_2 (by rfl) T.n_range pe_int (pe_op op_add (pv 2) (pe_int)))) pa_nil))) pa_nil))))))))), ?_⟩
  obtain ⟨sa, sdx, rfl, hsl⟩ := id hs
  have h2m : ((2 ^ m : Nat) : Int) = 2 ^ m := castpow m
  have hp := f.ht_pos
  have hhc := f.ht_le
  walk_at "w"
  refine ⟨_, m, R, rfl, hs, fun H1 S1 => ?_⟩
  walk_at "w"
  refine ⟨v, f, rfl, hf.same S1, ho, hc, fun H2 S2 => ?_⟩
  have S02 := S1.trans S2
  walk_at "w"
  refine ⟨v, f, rfl, hf.same S02, hc, fun H3 S3 => ?_⟩
  have S03 := S02.trans S3
  walk_at "w"
  refine a_slot T.sc_Shape T.s_Shape_own_registers (slt_same S03 hsl) rfl ?_
  walk_at "w"
  refine d_ite (fun h => ?_) fun h => ?_
  · refine a_mkS ?_
    walk_at "w"
    walk_at "t"
    intro p H4 n4 S4 e4
    walk_at "w"
    refine a_mkD fun d H5 S5 e5 => ?_
    exact q1 (by omega) d p H5 ((S03.trans S4).trans S5) (S5 _ _ e4) e5
  have hle : f.ht ≤ R - 1 := by omega
  walk_at "w"
  refine a_slot T.sc_Shape T.s_Shape_own_width (slt_same S03 hsl) rfl ?_
  walk_at "w"
  refine ⟨v, f, rfl, hf.same S03, hc, fun p kvs H4 S4 e4 hk => ?_⟩
  have S04 := S03.trans S4
  refine ⟨p, kvs, rfl, e4, ?_⟩
  rw [hk]
  walk_at "w"
  refine d_ite (fun h => ?_) fun h => ?_
  · refine a_mkS ?_
    walk_at "w"
    refine a_mkD fun d H5 S5 e5 => ?_
    exact q2 hle (by omega) d H5 (S04.trans S5) e5
  walk_at "w"
  refine a_lstRg ?_
  walk_at "w"
  refine ⟨_, _, rfl, rfl, RgOk.of_le (by omega) (by omega) (by omega) (by omega), ?_⟩
  rw [rgV_nat]
  refine a_new fun r5 H5 n5 S5 e5 => ?_
  have S05 := S04.trans S5
  walk_at "w"
  refine ⟨v, r5, f, _, rfl, hf.same S05, ho, hc, by decide, SqL.of e5, by rw [List.length_range']; exact Nat.le_refl _, ⟨by rw [List.length_range']; omega, fun x hx => ?_⟩, fun p6 H6 S6 n6 e6 => ?_⟩
  · have := List.mem_range'_1.mp hx
    omega
  refine a_tupOfL (SqL.of e6) (a_new fun p7 H7 n7 S7 e7 => ?_)
  exact q3 hle (by omega) p7 H7 ((S05.trans S6).trans S7) e7
end
end K83
end
section
set_option maxRecDepth 100000
set_option maxHeartbeats 4000000
namespace K83
open PySem PySem.Spec PyProof.Rows L2 LamX
/-! ## _law_told -/
theorem takes_len {X : Cx} {W : WX} (t : Takes X W) : Takes X (fun cls d σ H => σ.length = X.N.length → W cls d σ H) := fun u s' ⟨a, B, sI, pins, σ, H, cls, d, e, I, nb, up, sky, na, os, ag, q⟩ =>
  t u s' ⟨a, B, sI, pins, σ, H, cls, d, e, I, nb, up, sky, na, os, ag, q I.len⟩
/-- what an exception of the call gives -/
def ETold (K : PySem.W.Frag) (Q : VK) : XK := fun cls d H' =>
  (cls = .ref (He.ga K "Refused") ∧ ∃ dd v, d = some dd ∧ H' dd = some (.xd [("reason", v)]) ∧ newO (.tup [.str "refused", v]) Q H') ∨
  (cls = .ref (He.ga K "TooMany") ∧ ∃ dd v, d = some dd ∧ H' dd = some (.xd [("limit", v)]) ∧ newO (.tup [.str "refused", .str "many", v]) Q H')
/-- what the call's value gives -/
def QTold (Q : VK) : VK := fun v H' => newO (.tup [.str "told", v]) Q H'
/-- told: the call's value behind "told", or the reason -/
def TT2 (K : PySem.W.Frag) : (XK → Hp → VK → Prop) → Hp → VK → Prop := fun tl H Q => tl (ETold K Q) H fun v H' => [V.str "told", v].length ≤ sizeLine ∧ QTold Q v H'
theorem sc_law_told : FnScope ["_law_call", "error"] ["_law_call"] (defScope (top 117)) := ⟨rfl, rfl, rfl, by decide +kernel, rfl, by decide +kernel, by decide +kernel⟩
theorem look1 (f : Str) (v : V) : List.lookup f [(f, v)] = some v := by simp [List.lookup]
theorem told_gives2 {X : Cx} (T : Txt X.w X.K X.mg X.base) (pP : PrO X.prog) {g : Addr} {cdg : Value} {q : Str} : GivesTo X ["_law_call", "error"] "_law_told" (defScope (top 117)) g cdg (defBody (top 117)) "_law_call" q (TT2 X.K) := by
  intro f c' s H Q tl act hc h
  obtain ⟨sR, xR⟩ := T.x_Refused pP
  obtain ⟨sM, xM⟩ := T.x_TooMany pP
  refine ⟨_, pss_one (ps_try_asN (X := (cxOf C8.CX0 X.prog X.w X.K X.mg X.base ["_law_call", "error"] "_law_told" (defScope (top 117)) g cdg X.A X.stack s H C8.E0).nox) (n := "error") (i := 1) (Wo := fun _ _ _ _ => False)
    (l := [(.ref (He.ga X.K "Refused"), fun a cls d => tRet (tTup (tCons (tC (.str "refused")) (tCons (tXf a cls d (He.ga X.K "Refused") "reason" (tVar 1)) tNil)))),
      (.ref (He.ga X.K "TooMany"), fun a cls d => tRet (tTup (tCons (tC (.str "refused")) (tCons (tC (.str "many")) (tCons (tXf a cls d (He.ga X.K "TooMany") "limit" (tVar 1)) tNil)))))])
    (tb := fun W D σ H => ∃ Ech : XK, (∀ cls d σ' H', Ech cls d H' → σ'.length = 2 → W cls d σ' H') ∧ σ[0]? = some (some (.ref f)) ∧ H c' = some (CodeO c' q) ∧ tl Ech H fun v H1 => [V.str "told", v].length ≤ sizeLine ∧ QTold D.rt v H1)
    rfl rfl sc_law_told.nd rfl rfl LamX.takes0 (fun W pn xe tk _ => ?_)
    (.cons ⟨rfl, rfl, .inl T.m_Refused⟩ (fun a oe cls d pn hz hf => pss_one (ps_ret (pe_tup (pa_cons pe_str (pa_cons (pe_xf xR sR.noN hz hf (pv 1)) pa_nil)))))
      (.cons ⟨rfl, rfl, .inl T.m_TooMany⟩ (fun a oe cls d pn hz hf => pss_one (ps_ret (pe_tup (pa_cons pe_str (pa_cons pe_str (pa_cons (pe_xf xM sM.noN hz hf (pv 1)) pa_nil)))))) .nil))), ?_⟩
  · refine ⟨fun pins s' σ H' D I h' => ?_⟩
    obtain ⟨Ech, hW, h1, h2, h3⟩ := h'
    refine (pss_one (ps_ret (pe_tup (pa_cons pe_str (pa_cons (act (fun cls d σ' H' => σ'.length = 2 → W cls d σ' H') pn xe Ech _ _ (takes_len tk) hW) pa_nil))))).run pins s' σ H' D I ?_
    exact ⟨h1, h2, h3⟩
  · refine ⟨ETold X.K Q, fun cls d σ' H' he hl => ?_, rfl, hc, h⟩
    have at1 : ∀ a : Addr, (σ'.set 1 (some (V.ref a)))[1]? = some (some (V.ref a)) := fun a => List.getElem?_set_self (by rw [hl]; decide)
    rcases he with ⟨rfl, dd, v, rfl, e, q⟩ | ⟨rfl, dd, v, rfl, e, q⟩
    · refine ⟨true, T.exm_Refused_Refused, fun _ a na => ?_, fun z => nomatch z⟩
      exact ⟨_, at1 a, rfl, rfl, dd, _, v, rfl, e, look1 _ _, Nat.le_of_ble_eq_true rfl, q⟩
    · refine ⟨false, T.exm_TooMany_Refused, (fun z => Bool.noConfusion z), fun _ => ⟨true, T.exm_TooMany_TooMany, fun _ a na => ?_, fun z => nomatch z⟩⟩
      exact ⟨_, at1 a, rfl, rfl, dd, _, v, rfl, e, look1 _ _, Nat.le_of_ble_eq_true rfl, q⟩
end K83
end
section
set_option maxRecDepth 100000
set_option maxHeartbeats 4000000
namespace K83
open PySem PySem.Spec PyProof.Rows L2
/-- the tuples stay -/
def TS (H H' : Hp) : Prop := ∀ b xs, H b = some (.tup xs) → H' b = some (.tup xs)
theorem TS.of {H H' : Hp} (S : Same H H') : TS H H' := fun b _ e => S b _ e
theorem TS.upd {H : Hp} {D : Addr} {ys zs : List V} (e : H D = some (.lst ys)) : TS H (upd H D (.lst zs)) := fun b xs h => by
  rw [upd_ne fun z => by rw [z, e] at h; cases h]; exact h
theorem TS.trans {H H1 H2 : Hp} (a : TS H H1) (b : TS H1 H2) : TS H H2 := fun c xs e => b c xs (a c xs e)
/-- a list comprehension whose items are told of by a relation that stays -/
theorem lc_rel {J : It} {g : TG} {tt : TT} {te : TE} {vs : List Nat} {σ : L2.St} {H1 : Hp} {Q : VK} {n : Nat} (keep : Nat → Bool) (Rel : Nat → V → Hp → Prop) (mono : ∀ i y H H', TS H H' → Rel i y H → Rel i y H')
    (hn : n ≤ 1000) (hgo : ∀ i H', i < n → Same H1 H' → J.go i H') (hst : ∀ H', Same H1 H' → J.stop n H')
    (hs : ∀ i x H' H'' (R : VK) (N : Hp → Prop), i < n → Same H1 H' → J.yld i H' x H'' → (∀ y H4, keep i = true → Same H' H4 → Rel i y H4 → R y H4) → (∀ H4, keep i = false → Same H' H4 → N H4) →
      g x (wipe σ vs) H'' fun σ2 H2 => wipe σ2 vs = wipe σ vs ∧ tt σ2 H2 fun b H3 => if b = true then te σ2 H3 R else N H3)
    (hQ : ∀ D H' (l : List (Nat × V)), Same H1 H' → H1 D = none → H' D = some (.lst (l.map (·.2))) → l.map (·.1) = (List.range n).filter keep → (∀ p ∈ l, Rel p.1 p.2 H') → Q (.ref D) H') :
    lcGo J g tt te vs σ Q H1 := by
  intro D hD
  refine ⟨fun i m H => m = n - i ∧ i ≤ n ∧ Same H1 H ∧ ∃ l : List (Nat × V), H D = some (.lst (l.map (·.2))) ∧ l.map (·.1) = (List.range i).filter keep ∧ ∀ p ∈ l, Rel p.1 p.2 H, ⟨n, by omega, Nat.zero_le _, same_new hD, [], upd_same, rfl, fun _ h => nomatch h⟩, ?_⟩
  rintro i m H ⟨rfl, hi, S, l, hL, hk, hr⟩
  by_cases e : i = n
  · subst e
    exact .inl ⟨hst H S, hQ D H l S hD hL hk hr⟩
  · have lt : i < n := by omega
    refine .inr ⟨hgo i H lt S, fun H' => Same H1 H' ∧ ∃ l : List (Nat × V), H' D = some (.lst (l.map (·.2))) ∧ l.map (·.1) = (List.range (i + 1)).filter keep ∧ ∀ p ∈ l, Rel p.1 p.2 H', fun H' h => ⟨n - (i + 1), by omega, rfl, lt, h.1, h.2⟩, fun x H' hy => ?_⟩
    refine hs i x H H' _ _ lt S hy (fun y H4 ho S4 h4 => ?_) fun H4 ho S4 => ?_
    · have hL4 := S4 _ _ hL
      have len : (l.map (·.2)).length ≤ i := by
        have h1 : (l.map (·.1)).length ≤ i := by rw [hk]; exact Nat.le_trans (List.length_filter_le _ _) (by rw [List.length_range]; exact Nat.le_refl _)
        rw [List.length_map] at h1 ⊢
        exact h1
      refine ⟨_, hL4, small1000 (Nat.le_trans len (by omega)), same_upd (S.trans S4) hD, l ++ [(i, y)], by rw [upd_same, List.map_append]; rfl, ?_, fun p hp => ?_⟩
      · rw [List.range_succ, List.filter_append, List.map_append, hk]
        simp only [List.filter_cons, List.filter_nil, ho, if_true, List.map_cons, List.map_nil]
      · rcases List.mem_append.mp hp with hp | hp
        · exact mono _ _ _ _ ((TS.of S4).trans (TS.upd hL4)) (hr p hp)
        · rw [List.mem_singleton.mp hp]
          exact mono _ _ _ _ (TS.upd hL4) h4
    · refine ⟨S.trans S4, l, S4 _ _ hL, ?_, fun p hp => mono _ _ _ _ (TS.of S4) (hr p hp)⟩
      rw [List.range_succ, List.filter_append, hk]
      simp only [List.filter_cons, List.filter_nil, ho, List.append_nil, Bool.false_eq_true, if_false]
theorem mergeK_nd : ∀ (more kvs : List (Key × V)), ((kvs ++ more).map (·.1)).Nodup → mergeK kvs more = kvs ++ more
  | [], kvs, _ => (List.append_nil _).symm
  | p :: r, kvs, h => by
    have new : valV kvs p.1 = none := by
      cases hv : valV kvs p.1 with
      | none => rfl
      | some z =>
        have m1 := valV_in hv
        rw [List.map_append, List.map_cons, List.nodup_append] at h
        exact absurd rfl (h.2.2 _ m1 _ (List.mem_cons_self ..))
    show mergeK (putK kvs p.1 p.2) r = _
    rw [putK_new _ new, mergeK_nd r _ (by rw [List.append_assoc]; exact h), List.append_assoc]
    rfl
theorem range_getD (ks : List Int) : (List.range ks.length).map (fun i => ks.getD i 0) = ks := by
  refine List.ext_getElem? fun j => ?_
  rw [List.getElem?_map]
  by_cases h : j < ks.length
  · rw [List.getElem?_range h, List.getElem?_eq_getElem h]
    show some (ks.getD j 0) = _
    rw [List.getD_eq_getElem?_getD, List.getElem?_eq_getElem h]; rfl
  · rw [List.getElem?_eq_none (by rw [List.length_range]; omega), List.getElem?_eq_none (by omega)]; rfl
section
variable {K : PySem.W.Frag} {σ : L2.St} {H : Hp} {Q : VK}
/-- over a list of integers: a pair for each that is kept -/
theorem lc_pairs {a : Addr} {ks : List Int} {g : TG} {tt : TT} {te : TE} {vs : List Nat} (e : SqL K H a (ks.map V.int)) (hn : ks.length ≤ 1000) (keep : Int → Bool) (f : Int → V)
    (hs : ∀ k H' (R : VK) (N : Hp → Prop), k ∈ ks → Same H H' → (keep k = true → ∀ p H4, Same H' H4 → H4 p = some (.tup [.int k, f k]) → R (.ref p) H4) → (keep k = false → ∀ H4, Same H' H4 → N H4) →
      g (.int k) (wipe σ vs) H' fun σ2 H2 => wipe σ2 vs = wipe σ vs ∧ tt σ2 H2 fun b H3 => if b = true then te σ2 H3 R else N H3)
    (hQ : ∀ D H' ps, Same H H' → H D = none → H' D = some (.lst (ps.map V.ref)) → Paired (fun p kv => SqT K H' p [kV kv.1, kv.2]) ps ((ks.filter keep).map fun k => ((.inl k : Key), f k)) → Q (.ref D) H') : lcGo (Itl K a) g tt te vs σ Q H := by
  refine lc_rel (n := ks.length) (fun i => keep (ks.getD i 0)) (fun i y H => ∃ p, y = .ref p ∧ H p = some (.tup [.int (ks.getD i 0), f (ks.getD i 0)])) (fun i y H H' t z => ?_) hn (fun i H' hi S => ⟨ks.map V.int, V.int ks[i], S.seq e, by rw [List.getElem?_map, List.getElem?_eq_getElem hi]; rfl⟩) (fun H' S => ⟨_, S.seq e, by rw [List.length_map]; exact Nat.le_refl _⟩)
    (fun i x H' H'' R N hi S hy h1 h2 => ?_) fun D H' l S n hD hl hr => ?_
  · obtain ⟨p, ey, ep⟩ := z
    exact ⟨p, ey, t _ _ ep⟩
  · obtain ⟨rfl, hx⟩ := hy
    have hx' := hx _ (S.seq e)
    have hk : ks[i]? = some (ks.getD i 0) := by rw [List.getD_eq_getElem?_getD, List.getElem?_eq_getElem hi]; rfl
    rw [List.getElem?_map, hk] at hx'
    cases hx'
    exact hs _ _ R N (List.mem_of_getElem? hk) S (fun c p H4 S4 e4 => h1 _ _ c S4 ⟨p, rfl, e4⟩) fun c H4 S4 => h2 _ c S4
  · obtain ⟨ps, e1, e2⟩ : ∃ ps : List Addr, l.map (·.2) = ps.map V.ref ∧ Paired (fun p kv => SqT K H' p [kV kv.1, kv.2]) ps ((l.map (·.1)).map fun i => ((.inl (ks.getD i 0) : Key), f (ks.getD i 0))) := by
      clear hD hl
      induction l with
      | nil => exact ⟨[], rfl, .nil⟩
      | cons q l ih =>
        obtain ⟨ps, e1, e2⟩ := ih fun p hp => hr p (List.mem_cons_of_mem _ hp)
        obtain ⟨p, ey, ep⟩ := hr q (List.mem_cons_self ..)
        exact ⟨p :: ps, by rw [List.map_cons, e1, ey]; rfl, .cons (SqT.of ep) e2⟩
    have e3 : ((List.range ks.length).filter fun i => keep (ks.getD i 0)).map (fun i => ((.inl (ks.getD i 0) : Key), f (ks.getD i 0))) = (ks.filter keep).map fun k => ((.inl k : Key), f k) := by
      have h1 : ks.filter keep = ((List.range ks.length).filter fun i => keep (ks.getD i 0)).map (fun i => ks.getD i 0) := by
        have h2 := List.filter_map (p := keep) (f := fun i => ks.getD i 0) (l := List.range ks.length)
        rw [range_getD] at h2
        exact h2
      rw [h1, List.map_map]; rfl
    rw [hl, e3] at e2
    rw [e1] at hD
    exact hQ D H' ps S n hD e2
def rDictP (K : PySem.W.Frag) : List V → Hp → VK → Prop := fun xs H Q => ∃ (a : Addr) (ps : List Addr) (kvs : List (Key × V)), xs = [.ref a] ∧ SqL K H a (ps.map V.ref) ∧ Paired (fun p kv => SqT K H p [kV kv.1, kv.2]) ps kvs ∧ ∀ p, H p = none → Q (.ref p) (upd H p (.dK (mergeK [] kvs)))
theorem call_dP {X : Cx} (h : X.calm = true) : CallR X (.type "dict") (rDictP X.K) := call_dictP h
theorem a_dP {a : Addr} {ps : List Addr} {kvs : List (Key × V)} (e : H a = some (.lst (ps.map V.ref))) (z : Paired (fun p kv => SqT K H p [kV kv.1, kv.2]) ps kvs) (nd : (kvs.map (·.1)).Nodup) (h : newO (.dK kvs) Q H) : rDictP K [.ref a] H Q :=
  ⟨a, ps, kvs, rfl, SqL.of e, z, by rw [mergeK_nd kvs [] nd]; exact h⟩
def rDictD : List V → Hp → VK → Prop := fun xs H Q => ∃ (a : Addr) (kvs : List (Key × V)), xs = [.ref a] ∧ Rd H a (.dK kvs) ∧ ∀ p, H p = none → Q (.ref p) (upd H p (.dK kvs))
theorem call_dD {X : Cx} : CallR X (.type "dict") rDictD := call_dictD
theorem a_dD {a : Addr} {kvs : List (Key × V)} (e : H a = some (.dK kvs)) (h : newO (.dK kvs) Q H) : rDictD [.ref a] H Q := ⟨a, kvs, rfl, .inl e, h⟩
theorem a_dnewK (h : newO (.dK []) Q H) : tDNewK σ H Q := h
/-- list(d.items()) -/
theorem a_tli {te : TE} (h : te σ H fun x H1 => LiI.rItemsL x H1 Q) : LiI.tListItems te σ H Q := h
theorem a_li {d : Addr} {kvs : List (Key × V)} (e : H d = some (.dK kvs)) (h : ∀ p H' ts, H p = none → Same H H' → H' p = some (.lst (ts.map V.ref)) → Paired (fun p kv => SqT K H' p [kV kv.1, kv.2]) ts kvs → Q (.ref p) H') : LiI.rItemsL (.ref d) H Q :=
  ⟨d, kvs, rfl, e, fun H' p ts S n f1 f2 e2 z => h p H' ts n (fun b o => S b o) e2 (by
    clear e2 e h f1 f2
    induction z with
    | nil => exact .nil
    | cons a _ ih => exact .cons (SqT.of a) ih)⟩
/-- {k: v, ..} -/
theorem a_disp {trs : List (TE × TE)} (h : ∀ p H', H p = none → Same H H' → H' p = some (.dK []) → tPairs trs σ H' fun ps H2 => H2 p = some (.dK []) ∧ ∃ kvs : List (Key × V), ps = kvs.map (fun kv => (kV kv.1, kv.2)) ∧ kvs.length ≤ 15 ∧ Q (.ref p) (upd H2 p (.dK (mergeK [] kvs)))) : tDisp trs σ H Q :=
  fun p n => h p _ n (same_new n) upd_same
theorem a_pair {tk tv : TE} {r : List (TE × TE)} {R : List (V × V) → Hp → Prop} (h : tk σ H fun x H1 => tv σ H1 fun y H2 => tPairs r σ H2 fun ps H3 => R ((x, y) :: ps) H3) : tPairs ((tk, tv) :: r) σ H R := h
theorem a_pair0 {R : List (V × V) → Hp → Prop} (h : R [] H) : tPairs [] σ H R := h
theorem a_rep {l : Addr} {k : Nat} {xs : List V} (e : H l = some (.lst xs)) (h1 : k ≤ 1000) (h2 : xs.length ≤ 1000) (h : newO (.lst (List.replicate k xs).flatten) Q H) : rRep (.ref l) (.int k) H Q :=
  ⟨l, k, xs, rfl, rfl, e, by omega, by omega, by
    rw [Int.toNat_natCast]
    exact Nat.le_trans (Nat.mul_le_mul h2 h1) (by decide), by rw [Int.toNat_natCast]; exact h⟩
end
end K83
end
section
set_option maxRecDepth 100000
set_option maxHeartbeats 4000000
namespace K83
open PySem PySem.Spec PyProof.Rows L2
local macro_rules | `(tactic| walk_at "s") => `(tactic| first
  | with_reducible refine a_seq ?_ | ((with_reducible refine a_varX ?_); refine ⟨_, rfl, ?_⟩) | with_reducible refine a_c ?_ | with_reducible refine a_op ?_ | with_reducible refine a_rI0 ?_ | with_reducible refine a_cons ?_ | with_reducible refine a_nil ?_
  | with_reducible refine a_next ?_ | with_reducible refine a_ret ?_ | with_reducible refine a_retN ?_ | with_reducible refine a_drop ?_ | with_reducible refine a_if ?_ | with_reducible refine a_asg ?_ | with_reducible refine a_un ?_
  | with_reducible refine a_rU ?_ | with_reducible refine a_eqI ?_ | with_reducible refine a_neI ?_ | with_reducible refine a_eqS ?_ | with_reducible refine a_neS ?_ | with_reducible refine a_test ?_ | with_reducible refine a_tB ?_ | with_reducible refine a_bl ?_ | with_reducible refine a_int ?_
  | with_reducible refine a_and ?_ | with_reducible refine a_or ?_ | with_reducible refine a_not ?_ | with_reducible refine a_andV ?_ | with_reducible refine a_orV ?_ | with_reducible refine a_notV ?_ | with_reducible refine a_ifE ?_ | with_reducible refine a_chain ?_ | with_reducible refine a_call ?_ | with_reducible refine a_cb ?_ | with_reducible refine a_star ?_
  | ((with_reducible refine a_nameX ?_); refine ⟨_, (by simp only [L2.wipe, L2.start, List.map_cons, List.map_nil, List.length_cons, List.length_nil, List.replicate_succ, List.replicate_zero, Nat.reduceSub, Nat.reduceAdd, Nat.zero_add, List.cons_append, List.nil_append, List.set_cons_zero, List.set_cons_succ]; exact rfl), ?_⟩) | with_reducible refine a_gcons ?_ | with_reducible refine a_gnil ?_ | with_reducible refine a_gsub ?_ | with_reducible refine a_par ?_ | ((with_reducible refine a_parX rfl ?_); refine ⟨_, (by simp only [L2.wipe, L2.start, List.map_cons, List.map_nil, List.length_cons, List.length_nil, List.replicate_succ, List.replicate_zero, Nat.reduceSub, Nat.reduceAdd, Nat.zero_add, List.cons_append, List.nil_append, List.set_cons_zero, List.set_cons_succ]; exact rfl), ?_⟩) | ((with_reducible refine a_augX ?_); refine ⟨_, rfl, ?_⟩) | with_reducible refine a_ipI ?_ | with_reducible refine a_tup ?_ | with_reducible refine a_lst ?_ | with_reducible refine a_sl ?_ | with_reducible refine a_sslX ?_
  | with_reducible refine a_tsl ?_ | with_reducible refine a_noPart ?_ | with_reducible refine a_part ?_ | with_reducible refine a_i1 ?_ | with_reducible refine a_i1b ?_ | with_reducible refine a_mx ?_ | with_reducible refine a_mn ?_ | with_reducible refine a_ab ?_ | with_reducible refine a_mat ?_ | with_reducible refine a_case ?_
  | ((with_reducible refine a_oneS ?_ ?_); omega) | ((with_reducible refine a_mask 1 ?_ ?_); decide) | ((with_reducible refine a_mask 3 ?_ ?_); decide) | ((with_reducible refine a_mask 6 ?_ ?_); decide) | ((with_reducible refine a_mask 9 ?_ ?_); decide) | ((with_reducible refine a_rI ?_ ?_); first | exact ⟨by decide, by decide⟩ | decide)
  | ((with_reducible refine a_shlK 12 ?_ ?_ ?_); rfl; exact shl_small (by omega) (by omega) (by decide)) | ((with_reducible refine a_shlK 9 ?_ ?_ ?_); rfl; exact shl_small (by omega) (by omega) (by decide)) | ((with_reducible refine a_shlK 6 ?_ ?_ ?_); rfl; exact shl_small (by omega) (by omega) (by decide)) | with_reducible refine a_kdGet ?_
  | with_reducible refine a_bm0 ?_ | with_reducible refine a_bm ?_ | with_reducible refine a_dnewT ?_ | with_reducible refine a_gsl ?_ | with_reducible refine a_mk ?_
  | with_reducible refine a_dget2 ?_ | with_reducible refine a_dnewK ?_ | with_reducible refine a_tli ?_ | with_reducible refine a_pair ?_ | with_reducible refine a_pair0 ?_
  | with_reducible refine a_lc ?_ | with_reducible refine a_itup ?_ | with_reducible refine a_ilst ?_ | with_reducible refine a_yes ?_ | with_reducible refine a_iitems ?_ | with_reducible refine a_dc ?_ | with_reducible refine a_isN0 ?_ | with_reducible refine a_notN0 ?_ | with_reducible refine a_izip ?_ | with_reducible refine a_dget ?_ | with_reducible refine a_propSl ?_ | with_reducible refine a_methSl ?_ | with_reducible refine a_for ?_ | with_reducible refine a_rng1 ?_ | with_reducible refine a_rng2 ?_
  | with_reducible refine iteT ?_ | with_reducible refine iteF ?_)
local macro_rules | `(tactic| walk_at "t") => `(tactic| refine ⟨Nat.le_of_ble_eq_true rfl, a_new ?_⟩)
local macro_rules | `(tactic| walk_at "w") => `(tactic| repeat walk_at "s")
local macro_rules | `(tactic| walk_at "t0") => `(tactic| refine ⟨Nat.le_of_ble_eq_true rfl, ?_⟩)
theorem But.upd_new {d F : Addr} {H H1 : Hp} {o : HO} (n : H F = none) (B : But d H H1) : But d H (upd H1 F o) := fun b o' h e => by
  rw [upd_ne fun z => by rw [z, n] at e; cases e]; exact B b o' h e
/-- a word table as it is drawn -/
def FdOk (m : Nat) (fd : List (Int × Int)) : Prop := (fd.map (·.1)).Nodup ∧ ∀ p ∈ fd, Wd m p.1 ∧ Wd m p.2 ∧ p.2 ≠ 0
theorem fd_put {m : Nat} {fd : List (Int × Int)} {k v : Int} (h : FdOk m fd) (hk : Wd m k) (hv : Wd m v) (h0 : v ≠ 0) : ∃ fd', putK (memK fd) (.inl k) (.int v) = memK fd' ∧ FdOk m fd' ∧ fd'.length ≤ fd.length + 1 := by
  by_cases c : k ∈ fd.map (·.1)
  · refine ⟨fd.map fun p => if p.1 = k then (p.1, v) else p, ?_, ⟨?_, fun p hp => ?_⟩, by rw [List.length_map]; omega⟩
    · unfold putK memK
      rw [if_pos (by
        rw [List.any_eq_true]
        obtain ⟨p, hp, e⟩ := List.mem_map.mp c
        exact ⟨_, List.mem_map_of_mem hp, decide_eq_true (congrArg Sum.inl e)⟩), List.map_map, List.map_map]
      refine List.map_congr_left fun p _ => ?_
      show (if (Sum.inl p.1 : Key) = .inl k then _ else _) = _
      by_cases e : p.1 = k
      · rw [if_pos (congrArg Sum.inl e)]
        show _ = ((Sum.inl (if p.1 = k then (p.1, v) else p).1 : Key), V.int (if p.1 = k then (p.1, v) else p).2)
        rw [if_pos e]
      · rw [if_neg fun z => e (Sum.inl.inj z)]
        show _ = ((Sum.inl (if p.1 = k then (p.1, v) else p).1 : Key), V.int (if p.1 = k then (p.1, v) else p).2)
        rw [if_neg e]
    · rw [List.map_map, show ((fun p : Int × Int => p.1) ∘ fun p : Int × Int => if p.1 = k then (p.1, v) else p) = fun p => p.1 from funext fun p => by
        show (if p.1 = k then (p.1, v) else p).1 = p.1
        split <;> rfl]
      exact h.1
    · obtain ⟨q, hq, e⟩ := List.mem_map.mp hp
      have := h.2 q hq
      by_cases c : q.1 = k
      · rw [if_pos c] at e; subst e; exact ⟨this.1, hv, h0⟩
      · rw [if_neg c] at e; subst e; exact this
  · refine ⟨fd ++ [(k, v)], ?_, ⟨?_, fun p hp => ?_⟩, by rw [List.length_append]; exact Nat.le_refl _⟩
    · rw [putK_new]
      · unfold memK; rw [List.map_append]; rfl
      · cases hv : valV (memK fd) (.inl k) with
        | none => rfl
        | some z =>
          have m1 := valV_in hv
          unfold memK at m1
          rw [List.map_map] at m1
          obtain ⟨q, hq, e⟩ := List.mem_map.mp m1
          exact absurd (List.mem_map.mpr ⟨q, hq, Sum.inl.inj e⟩) c
    · rw [List.map_append, List.nodup_append]
      exact ⟨h.1, List.nodup_cons.mpr ⟨List.not_mem_nil, List.nodup_nil⟩, fun a ha b hb => by rw [List.mem_singleton.mp hb]; intro e; exact c (by rw [← show a = k from e]; exact ha)⟩
    · rcases List.mem_append.mp hp with hp | hp
      · exact h.2 p hp
      · rw [List.mem_singleton.mp hp]; exact ⟨hk, hv, h0⟩
theorem ld_mem {fd : List (Int × Int)} {k : Int} (h : k ∈ fd.map (·.1)) : (k, ldOf fd k) ∈ fd := by
  induction fd with
  | nil => cases h
  | cons p r ih =>
    unfold ldOf
    by_cases e : p.1 = k
    · rw [List.find?_cons_of_pos (by simpa using e)]
      subst e
      exact List.mem_cons_self ..
    · rw [List.find?_cons_of_neg (by simpa using e)]
      rcases List.mem_cons.mp h with h | h
      · exact absurd h.symm e
      · exact List.mem_cons_of_mem _ (ih h)
section
variable {P : Program} {w : World} {K : PySem.W.Frag} {mg : Str → Option Value} {base : Heap}
theorem sc_law_memory_drawn : FnScope ["_law_dice_here", "_law_shape", "_law_size", "_law_found", "_law_turn", "_law_place"] ["_law_dice_here", "_law_shape"] (defScope (top 109)) := ⟨rfl, rfl, rfl, by decide +kernel, rfl, by decide +kernel, by decide +kernel⟩
abbrev sp_law_memory_drawn : Sp := fun vs H Q _ => ∃ (d : Addr) (sv : V) (m R : Nat), vs = [.ref d, sv] ∧ IsDi H d ∧ IsL H sv m R ∧ (4 ≤ m ∧ m ≤ 16) ∧ ∀ a mem H', But d H H' → IsDi H' d → MemOk m mem → H' a = some (.dK (memK mem)) → Q (.ref a) H'
theorem ok_law_memory_drawn (T : Txt w K mg base) : C8.Cal P w K mg base 3 "_law_memory_drawn" sp_law_memory_drawn [] := by
  refine cal_of T.f_law_memory_drawn T.m_law_memory_drawn sc_law_memory_drawn (fun vs H Q E h => ?_) (fun _ _ _ _ _ _ us hl => match us, hl with | [_, _], _ => rfl) fun cdv A outer s H vs Q E hr h => ?_
  · obtain ⟨_, _, _, _, rfl, _⟩ := h; rfl
  obtain ⟨d, sv, m, R, rfl, q⟩ := h
  refine ⟨_, pss_cons (ps_asg (pe_tup (pa_cons (C8.pe_c (ok_law_two_to T) hr (by omega) rfl (pa_cons (pe_ix ix_tup (pv 1) (pe_int) (fun _ _ => rfl)) pa_nil)) (pa_cons (pe_dnewK) pa_nil))) (pg_tup rfl (pgs_cons (pg_name (i := 2) sc_law_memory_drawn.nd rfl (Or.inl rfl)) (pgs_cons (pg_name (i := 3) sc_law_memory_drawn.nd rfl (Or.inr rfl)) pgs_nil))))
  (pss_cons (ps_for PassesOwn.never rfl (pi_range1 (by rfl) T.n_range (pa_cons (C8.pe_c (ok_law_roll T) hr (by omega) rfl (pa_cons (pv 0) (pa_cons (pe_int) pa_nil))) pa_nil)) (pg_name (i := 4) sc_law_memory_drawn.nd rfl (Or.inl rfl))
    (pss_one (ps_asg (pe_op op_add (pe_int) (C8.pe_c (ok_law_roll T) hr (by omega) rfl (pa_cons (pv 0) (pa_cons (pe_op op_sub (pv 2) (pe_int)) pa_nil)))) (pg_sub (pv 3) (C8.pe_c (ok_law_one_of T) hr (by omega) rfl (pa_cons (pv 0) (pa_cons (pe_lst (pa_cons (C8.pe_c (ok_law_roll T) hr (by omega) rfl (pa_cons (pv 0) (pa_cons (pe_int) pa_nil))) (pa_cons (C8.pe_c (ok_law_roll T) hr (by omega) rfl (pa_cons (pv 0) (pa_cons (pv 2) pa_nil))) pa_nil))) pa_nil))) (set_dict (hu_of hr))))))
  (pss_one (ps_ret (pe_callTy (call_dP rfl) (by rfl) T.n_dict (by decide +kernel) (pa_cons (pe_lc rfl sc_law_memory_drawn.nd (pi_list (pe_callB (call_sortD rfl) (by rfl) T.n_sorted (by decide +kernel) (pa_cons (pv 3) pa_nil))) (blkOk_by (N := ["_law_dice_here", "_law_shape", "_law_size", "_law_found", "_law_turn", "_law_place"]) (sc := defScope (top 109)) (own := [("_law_place", 5)]) (by decide +kernel)) (fun _ _ _ _ _ => pg_name (i := 5) sc_law_memory_drawn.nd rfl (Or.inl rfl)) (fun _ _ _ _ _ => pts_nil) (fun _ _ _ _ _ => pe_tup (pa_cons (pv 5) (pa_cons (pe_dget (hu_of hr) (pv 3) (pv 5) (fun _ _ => rfl)) pa_nil)))) pa_nil))))), ?_⟩
  obtain ⟨hd, ⟨sa, rfl, hsa⟩, hm, q⟩ := q
  have hp16 : (16 : Int) ≤ 2 ^ m := by
    have h1 : (2 : Nat) ^ 4 ≤ 2 ^ m := Nat.pow_le_pow_right (by decide) hm.1
    have h2 : ((2 ^ 4 : Nat) : Int) ≤ ((2 ^ m : Nat) : Int) := Int.ofNat_le.mpr h1
    rw [castpow, castpow] at h2
    exact h2
  have hp30 : (2 : Int) ^ m ≤ 65536 := by
    have h1 : (2 : Nat) ^ m ≤ 2 ^ 16 := Nat.pow_le_pow_right (by decide) hm.2
    have h2 : ((2 ^ m : Nat) : Int) ≤ ((2 ^ 16 : Nat) : Int) := Int.ofNat_le.mpr h1
    rw [castpow, castpow] at h2
    exact h2
  walk_at "w"
  refine a_ixT (SqT.of hsa) (at_of (j := 0) rfl rfl) ?_
  walk_at "w"
  refine ⟨m, rfl, hm.2, fun H1 S1 => ?_⟩
  walk_at "w"
  refine a_new fun F H2 n2 S2 e2 => ?_
  have nF : H F = none := S1.free n2
  have dF : F ≠ d := (hd.same S1).ne0 n2
  walk_at "w"
  walk_at "t"
  intro t H3 n3 S3 e3
  walk_at "w"
  refine a_gtup (SqT.of e3) rfl ?_
  walk_at "w"
  refine ⟨d, 6, rfl, ((hd.same S1).same S2).same S3, by decide, by decide, fun r H4 B4 hd4 r0 r1 => ?_⟩
  refine ⟨r, rfl, by omega, by omega, ?_⟩
  have B04 : But d H H4 := (((But.of S1).same S2).same S3).trans B4
  have e4 : H4 F = some (.dK (memK [])) := B4 _ _ dF (S3 _ _ e2)
  refine for_up (fun i σ' H' => ∃ o fd, σ' = [some (.ref d), some (.ref sa), some (.int (2 ^ m)), some (.ref F), o, none] ∧ But d H H' ∧ IsDi H' d ∧ H' F = some (.dK (memK fd)) ∧ FdOk m fd ∧ fd.length ≤ i) ⟨none, [], rfl, B04, hd4, e4, ⟨List.nodup_nil, fun _ h => nomatch h⟩, Nat.le_refl _⟩ (fun i σ' H' hi hW => ?_) fun σ' H' hW => ?_
  · obtain ⟨o, fd, rfl, B, hd5, e5, hfd, hl⟩ := hW
    walk_at "w"
    refine ⟨d, 2 ^ m - 1, rfl, hd5, by omega, by omega, fun v H6 B6 hd6 v0 v1 => ?_⟩
    walk_at "w"
    refine ⟨d, 8, rfl, hd6, by decide, by decide, fun k1 H7 B7 hd7 k10 k11 => ?_⟩
    walk_at "w"
    refine ⟨d, 2 ^ m, rfl, hd7, by omega, by omega, fun k2 H8 B8 hd8 k20 k21 => ?_⟩
    walk_at "w"
    refine ⟨Nat.le_of_ble_eq_true rfl, a_new fun pb H9 n9 S9 e9 => ?_⟩
    walk_at "w"
    refine ⟨d, pb, _, rfl, hd8.same S9, e9, hd8.ne0 n9, ⟨show 0 < 2 by decide, show 2 < 1000 by decide⟩, fun y H10 B10 hd10 hy => ?_⟩
    obtain ⟨k, rfl, hk⟩ : ∃ k : Int, y = .int k ∧ Wd m k := by
      simp only [List.mem_cons, List.not_mem_nil, or_false] at hy
      rcases hy with h | h
      · exact ⟨k1, h, k10, by omega⟩
      · exact ⟨k2, h, k20, k21⟩
    have e10 := B10 _ _ dF (S9 _ _ (B8 _ _ dF (B7 _ _ dF (B6 _ _ dF e5))))
    have B010 : But d H H10 := (((B.trans B6).trans B7).trans B8 |>.same S9).trans B10
    obtain ⟨fd', f1, f2, f3⟩ := fd_put hfd hk (v := 1 + v) ⟨by omega, by omega⟩ (by omega)
    refine ⟨F, _, rfl, DPut.k (k := .inl k) e10 (by unfold memK; rw [List.length_map]; exact small1000 (by omega)), ?_⟩
    rw [f1]
    walk_at "w"
    obtain ⟨dx, dy, dz, hdd⟩ := hd10
    exact ⟨_, fd', rfl, B010.upd_new nF, ⟨dx, dy, dz, by rw [upd_ne dF.symm]; exact hdd⟩, upd_same, f2, by omega⟩
  · obtain ⟨o, fd, rfl, B, hd5, e5, hfd, hl⟩ := hW
    have hl5 : fd.length ≤ 5 := by omega
    walk_at "w"
    refine a_sortD e5 (ks := fd.map (·.1)) (by unfold memK; rw [List.map_map, List.map_map]; rfl) (by rw [List.length_map]; omega) fun ys y1 y2 => ?_
    refine a_new fun p6 H6 n6 S6 e6 => ?_
    refine ⟨p6, rfl, ⟨_, SqL.of e6⟩, ?_⟩
    have yl : ys.length ≤ 5 := by rw [y1.length_eq, List.length_map]; exact hl5
    have ynd : ys.Nodup := y1.nodup_iff.mpr hfd.1
    refine lc_pairs (SqL.of e6) (by omega) (fun _ => true) (fun k => .int (ldOf fd k)) (fun k H' R' N' hk S' h1 h2 => ?_) fun D H7 ps S7 n7 e7 z7 => ?_
    · walk_at "w"
      refine ⟨rfl, ?_⟩
      walk_at "w"
      have g := DGet.k (k := .inl k) ((S6.trans S') _ _ e5)
      rw [val_at (y1.mem_iff.mp hk)] at g
      refine ⟨F, _, rfl, g, ?_⟩
      walk_at "w"
      walk_at "t"
      intro p H8 n8 S8 e8
      exact h1 rfl p H8 S8 e8
    · rw [List.filter_eq_self.mpr fun _ _ => rfl] at z7
      refine a_dP e7 z7 (by rw [List.map_map]; exact List.Pairwise.map _ (fun a b h e => h (Sum.inl.inj e)) ynd) ?_
      refine a_new fun p8 H8 n8 S8 e8 => ?_
      have em : ys.map (fun k => ((.inl k : Key), V.int (ldOf fd k))) = memK (ys.map fun k => (k, ldOf fd k)) := by
        unfold memK; rw [List.map_map]; rfl
      rw [em] at e8
      have S58 := (S6.trans S7).trans S8
      refine q p8 _ H8 (B.same S58) (hd5.same S58) ⟨?_, by rw [List.length_map]; omega, fun p hp => ?_⟩ e8
      · rw [List.pairwise_map]
        exact List.Pairwise.imp₂ (fun a b h1 h2 => by show a < b; have : a ≠ b := h2; omega) y2 ynd
      · obtain ⟨k, hk, rfl⟩ := List.mem_map.mp hp
        exact hfd.2 _ (ld_mem (y1.mem_iff.mp hk))
end
end K83
end
section
set_option maxRecDepth 100000
set_option maxHeartbeats 4000000
namespace K83
open PySem PySem.Spec PyProof.Rows L2
local macro_rules | `(tactic| walk_at "s") => `(tactic| first
  | with_reducible refine a_seq ?_ | ((with_reducible refine a_varX ?_); refine ⟨_, rfl, ?_⟩) | with_reducible refine a_c ?_ | with_reducible refine a_op ?_ | with_reducible refine a_rI0 ?_ | with_reducible refine a_cons ?_ | with_reducible refine a_nil ?_
  | with_reducible refine a_next ?_ | with_reducible refine a_ret ?_ | with_reducible refine a_retN ?_ | with_reducible refine a_drop ?_ | with_reducible refine a_if ?_ | with_reducible refine a_asg ?_ | with_reducible refine a_un ?_
  | with_reducible refine a_rU ?_ | with_reducible refine a_eqI ?_ | with_reducible refine a_neI ?_ | with_reducible refine a_eqS ?_ | with_reducible refine a_neS ?_ | with_reducible refine a_test ?_ | with_reducible refine a_tB ?_ | with_reducible refine a_bl ?_ | with_reducible refine a_int ?_
  | with_reducible refine a_and ?_ | with_reducible refine a_or ?_ | with_reducible refine a_not ?_ | with_reducible refine a_andV ?_ | with_reducible refine a_orV ?_ | with_reducible refine a_notV ?_ | with_reducible refine a_ifE ?_ | with_reducible refine a_chain ?_ | with_reducible refine a_call ?_ | with_reducible refine a_cb ?_ | with_reducible refine a_star ?_
  | ((with_reducible refine a_nameX ?_); refine ⟨_, (by simp only [L2.wipe, L2.start, List.map_cons, List.map_nil, List.length_cons, List.length_nil, List.replicate_succ, List.replicate_zero, Nat.reduceSub, Nat.reduceAdd, Nat.zero_add, List.cons_append, List.nil_append, List.set_cons_zero, List.set_cons_succ]; exact rfl), ?_⟩) | with_reducible refine a_gcons ?_ | with_reducible refine a_gnil ?_ | with_reducible refine a_gsub ?_ | with_reducible refine a_par ?_ | ((with_reducible refine a_parX rfl ?_); refine ⟨_, (by simp only [L2.wipe, L2.start, List.map_cons, List.map_nil, List.length_cons, List.length_nil, List.replicate_succ, List.replicate_zero, Nat.reduceSub, Nat.reduceAdd, Nat.zero_add, List.cons_append, List.nil_append, List.set_cons_zero, List.set_cons_succ]; exact rfl), ?_⟩) | ((with_reducible refine a_augX ?_); refine ⟨_, rfl, ?_⟩) | with_reducible refine a_ipI ?_ | with_reducible refine a_tup ?_ | with_reducible refine a_lst ?_ | with_reducible refine a_sl ?_ | with_reducible refine a_sslX ?_
  | with_reducible refine a_tsl ?_ | with_reducible refine a_noPart ?_ | with_reducible refine a_part ?_ | with_reducible refine a_i1 ?_ | with_reducible refine a_i1b ?_ | with_reducible refine a_mx ?_ | with_reducible refine a_mn ?_ | with_reducible refine a_ab ?_ | with_reducible refine a_mat ?_ | with_reducible refine a_case ?_
  | ((with_reducible refine a_oneS ?_ ?_); omega) | ((with_reducible refine a_mask 1 ?_ ?_); decide) | ((with_reducible refine a_mask 3 ?_ ?_); decide) | ((with_reducible refine a_mask 6 ?_ ?_); decide) | ((with_reducible refine a_mask 9 ?_ ?_); decide) | ((with_reducible refine a_rI ?_ ?_); first | exact ⟨by decide, by decide⟩ | decide)
  | ((with_reducible refine a_shlK 12 ?_ ?_ ?_); rfl; exact shl_small (by omega) (by omega) (by decide)) | ((with_reducible refine a_shlK 9 ?_ ?_ ?_); rfl; exact shl_small (by omega) (by omega) (by decide)) | ((with_reducible refine a_shlK 6 ?_ ?_ ?_); rfl; exact shl_small (by omega) (by omega) (by decide)) | with_reducible refine a_kdGet ?_
  | with_reducible refine a_bm0 ?_ | with_reducible refine a_bm ?_ | with_reducible refine a_dnewT ?_ | with_reducible refine a_gsl ?_ | with_reducible refine a_mk ?_
  | with_reducible refine a_dget2 ?_ | with_reducible refine a_dnewK ?_ | with_reducible refine a_tli ?_ | with_reducible refine a_pair ?_ | with_reducible refine a_pair0 ?_
  | with_reducible refine a_lc ?_ | with_reducible refine a_itup ?_ | with_reducible refine a_ilst ?_ | with_reducible refine a_yes ?_ | with_reducible refine a_iitems ?_ | with_reducible refine a_dc ?_ | with_reducible refine a_isN0 ?_ | with_reducible refine a_notN0 ?_ | with_reducible refine a_izip ?_ | with_reducible refine a_dget ?_ | with_reducible refine a_propSl ?_ | with_reducible refine a_methSl ?_ | with_reducible refine a_for ?_ | with_reducible refine a_rng1 ?_ | with_reducible refine a_rng2 ?_
  | with_reducible refine iteT ?_ | with_reducible refine iteF ?_)
local macro_rules | `(tactic| walk_at "t") => `(tactic| refine ⟨Nat.le_of_ble_eq_true rfl, a_new ?_⟩)
local macro_rules | `(tactic| walk_at "w") => `(tactic| repeat walk_at "s")
local macro_rules | `(tactic| walk_at "t0") => `(tactic| refine ⟨Nat.le_of_ble_eq_true rfl, ?_⟩)
/-- the law's state: a dict with text keys -/
def stK (pc rg me sv al en ou : V) : List (Key × V) := [(.inr "pc", pc), (.inr "registers", rg), (.inr "memory", me), (.inr "saved", sv), (.inr "allowed", al), (.inr "ended", en), (.inr "outputs", ou)]
theorem rep0 : ∀ n : Nat, (List.replicate n [V.int 0]).flatten = intV (List.replicate n 0)
  | 0 => rfl
  | n + 1 => by
    rw [List.replicate_succ, List.flatten_cons, rep0 n, List.replicate_succ]; rfl
theorem valV_none {kvs : List (Key × V)} {k : Key} (h : (kvs.map (·.1)).all (fun x => decide (x ≠ k)) = true) : valV kvs k = none := by
  cases hv : valV kvs k with
  | none => rfl
  | some z => exact absurd rfl (of_decide_eq_true (List.all_eq_true.mp h _ (valV_in hv)))
theorem st4 (a b c d : V) : mergeK [] [((.inr "pc" : Key), a), (.inr "registers", b), (.inr "memory", c), (.inr "saved", d)] = [(.inr "pc", a), (.inr "registers", b), (.inr "memory", c), (.inr "saved", d)] :=
  mergeK_nd _ [] (show ([.inr "pc", .inr "registers", .inr "memory", .inr "saved"] : List Key).Nodup by decide +kernel)
theorem st5 (a b c d e : V) : putK [((.inr "pc" : Key), a), (.inr "registers", b), (.inr "memory", c), (.inr "saved", d)] (.inr "allowed") e = [(.inr "pc", a), (.inr "registers", b), (.inr "memory", c), (.inr "saved", d), (.inr "allowed", e)] :=
  putK_new _ (valV_none (show ([.inr "pc", .inr "registers", .inr "memory", .inr "saved"] : List Key).all (fun x => decide (x ≠ (.inr "allowed" : Key))) = true by decide +kernel))
theorem st6 (a b c d e f : V) : putK [((.inr "pc" : Key), a), (.inr "registers", b), (.inr "memory", c), (.inr "saved", d), (.inr "allowed", e)] (.inr "ended") f = [(.inr "pc", a), (.inr "registers", b), (.inr "memory", c), (.inr "saved", d), (.inr "allowed", e), (.inr "ended", f)] :=
  putK_new _ (valV_none (show ([.inr "pc", .inr "registers", .inr "memory", .inr "saved", .inr "allowed"] : List Key).all (fun x => decide (x ≠ (.inr "ended" : Key))) = true by decide +kernel))
theorem st7 (a b c d e f g : V) : putK [((.inr "pc" : Key), a), (.inr "registers", b), (.inr "memory", c), (.inr "saved", d), (.inr "allowed", e), (.inr "ended", f)] (.inr "outputs") g = stK a b c d e f g :=
  putK_new _ (valV_none (show ([.inr "pc", .inr "registers", .inr "memory", .inr "saved", .inr "allowed", .inr "ended"] : List Key).all (fun x => decide (x ≠ (.inr "outputs" : Key))) = true by decide +kernel))
section
variable {P : Program} {w : World} {K : PySem.W.Frag} {mg : Str → Option Value} {base : Heap}
theorem sc_law_plain_first : FnScope ["_law_shape", "_law_store", "_law_found"] ["_law_shape", "_law_store"] (defScope (top 110)) := ⟨rfl, rfl, rfl, by decide +kernel, rfl, by decide +kernel, by decide +kernel⟩
abbrev sp_law_plain_first (K : PySem.W.Frag) : Sp := fun vs H Q _ => ∃ (sv : V) (d : Addr) (m R : Nat) (mem : List (Int × Int)), vs = [sv, .ref d] ∧ IsL H sv m R ∧ R ≤ 8 ∧ H d = some (.dK (memK mem)) ∧ MemOk m mem ∧
  ∀ a rg me ou H', H a = none → Same H H' → H' a = some (.dK (stK (.int 0) (.ref rg) (.ref me) (.int 0) (.bl false) .non (.ref ou))) → H' rg = some (.lst (intV (List.replicate R 0))) → H' me = some (.dK (memK mem)) → SqT K H' ou [] → Q (.ref a) H'
theorem ok_law_plain_first (T : Txt w K mg base) : C8.Cal P w K mg base 1 "_law_plain_first" (sp_law_plain_first K) [] := by
  refine cal_of T.f_law_plain_first T.m_law_plain_first sc_law_plain_first (fun vs H Q E h => ?_) (fun _ _ _ _ _ _ us hl => match us, hl with | [_, _], _ => rfl) fun cdv A outer s H vs Q E hr h => ?_
  · obtain ⟨_, _, _, _, _, rfl, _⟩ := h; rfl
  obtain ⟨sv, d, m, R, mem, rfl, q⟩ := h
  refine ⟨_, pss_cons (ps_set (i := 2) sc_law_plain_first.nd rfl (Or.inl rfl) (pe_disp (pps_cons (pe_str) (pe_int) (pps_cons (pe_str) (pe_op op_rep (pe_lst (pa_cons (pe_int) pa_nil)) (pe_ix ix_tup (pv 0) (pe_int) (fun _ _ => rfl))) (pps_cons (pe_str) (pe_callTy (call_dP rfl) (by rfl) T.n_dict (by decide +kernel) (pa_cons (LiI.pe_listItems rfl (pv 1) (by rfl) T.n_list rfl) pa_nil)) (pps_cons (pe_str) (pe_int) (pps_nil))))) rfl rfl (by simp) (by decide)))
  (pss_cons (ps_asg (pe_tup (pa_cons (pe_bl) (pa_cons (pe_non) (pa_cons (pe_tup pa_nil) pa_nil)))) (pg_tup rfl (pgs_cons (pg_sub (pv 2) (pe_str) (set_dict (hu_of hr))) (pgs_cons (pg_sub (pv 2) (pe_str) (set_dict (hu_of hr))) (pgs_cons (pg_sub (pv 2) (pe_str) (set_dict (hu_of hr))) pgs_nil)))))
  (pss_one (ps_ret (pv 2)))), ?_⟩
  obtain ⟨⟨sa, rfl, hsa⟩, hR, hd, hmem, q⟩ := q
  walk_at "w"
  refine a_disp fun a H1 n1 S1 e1 => ?_
  walk_at "w"
  refine ⟨Nat.le_of_ble_eq_true rfl, a_new fun pl H2 n2 S2 e2 => ?_⟩
  walk_at "w"
  refine a_ixT (SqT.of (via S2 (via S1 hsa))) (at_of (j := 1) rfl rfl) ?_
  refine a_rep e2 (by omega) (by decide) (a_new fun rg H3 n3 S3 e3 => ?_)
  walk_at "w"
  refine a_li (K := K) (S3 _ _ (S2 _ _ (S1 _ _ hd))) fun p4 H4 ts n4 S4 e4 z4 => ?_
  walk_at "w"
  refine a_dP (K := K) e4 z4 (by unfold memK; rw [List.map_map]; exact (List.pairwise_map.mpr (hmem.1.imp fun {a b} h e => Int.ne_of_lt h (Sum.inl.inj e)))) (a_new fun me H5 n5 S5 e5 => ?_)
  walk_at "w"
  have S25 := ((S2.trans S3).trans S4).trans S5
  refine ⟨S25 _ _ e1, [(.inr "pc", .int 0), (.inr "registers", .ref rg), (.inr "memory", .ref me), (.inr "saved", .int 0)], rfl, show 4 ≤ 15 by decide, ?_⟩
  rw [st4]
  have S05 : Same H H5 := S1.trans S25
  have ra : rg ≠ a := fun z => by rw [z] at n3; rw [S2 _ _ e1] at n3; cases n3
  have ma : me ≠ a := fun z => by rw [z] at n5; rw [S4 _ _ (S3 _ _ (S2 _ _ e1))] at n5; cases n5
  generalize hH6 : upd H5 a (.dK [((.inr "pc" : Key), .int 0), (.inr "registers", .ref rg), (.inr "memory", .ref me), (.inr "saved", .int 0)]) = H6
  have a6 : H6 a = some (.dK [(.inr "pc", .int 0), (.inr "registers", .ref rg), (.inr "memory", .ref me), (.inr "saved", .int 0)]) := by rw [← hH6]; exact upd_same
  have S6 : Same H H6 := by rw [← hH6]; exact same_upd S05 n1
  have r6 : H6 rg = some (.lst (intV (List.replicate R 0))) := by
    rw [← hH6, upd_ne ra, S5 _ _ (S4 _ _ e3), rep0]
  have m6 : H6 me = some (.dK (memK mem)) := by rw [← hH6, upd_ne ma]; exact e5
  clear hH6
  walk_at "w"
  walk_at "t"
  intro ou H7 n7 S7 e7
  walk_at "w"
  walk_at "t"
  intro tp H8 n8 S8 e8
  have S68 := S7.trans S8
  walk_at "w"
  refine a_gtup (SqT.of e8) rfl ?_
  walk_at "w"
  have hlen : ∀ n, n ≤ 10 → n < sizeLine := fun n h => small1000 (by omega)
  refine ⟨a, _, rfl, DPut.k (k := .inr "allowed") (S68 _ _ a6) (hlen 4 (by decide)), ?_⟩
  rw [st5]
  walk_at "w"
  refine ⟨a, _, rfl, DPut.k (k := .inr "ended") upd_same (hlen 5 (by decide)), ?_⟩
  rw [st6]
  walk_at "w"
  refine ⟨a, _, rfl, DPut.k (k := .inr "outputs") upd_same (hlen 6 (by decide)), ?_⟩
  rw [st7]
  have oa : ou ≠ a := fun z => by rw [z, a6] at n7; cases n7
  have nn : ∀ b, b ≠ a → ∀ o1 o2 o3 : HO, upd (upd (upd H8 a o1) a o2) a o3 b = H8 b := fun b hb o1 o2 o3 => by rw [upd_ne hb, upd_ne hb, upd_ne hb]
  walk_at "w"
  refine q a rg me ou _ n1 (fun b o e => ?_) upd_same (by rw [nn _ ra]; exact S68 _ _ r6) (by rw [nn _ ma]; exact S68 _ _ m6) (SqT.of (by rw [nn _ oa]; exact S8 _ _ e7))
  rw [nn _ (ne_of_none e n1)]
  exact S68 _ _ (S6 _ _ e)
end
end K83
end
section
set_option maxRecDepth 100000
set_option maxHeartbeats 4000000
namespace K83
open PySem PySem.Spec PyProof.Rows L2
local macro_rules | `(tactic| walk_at "s") => `(tactic| first
  | with_reducible refine a_seq ?_ | ((with_reducible refine a_varX ?_); refine ⟨_, rfl, ?_⟩) | with_reducible refine a_c ?_ | with_reducible refine a_op ?_ | with_reducible refine a_rI0 ?_ | with_reducible refine a_cons ?_ | with_reducible refine a_nil ?_
  | with_reducible refine a_next ?_ | with_reducible refine a_ret ?_ | with_reducible refine a_retN ?_ | with_reducible refine a_drop ?_ | with_reducible refine a_if ?_ | with_reducible refine a_asg ?_ | with_reducible refine a_un ?_
  | with_reducible refine a_rU ?_ | with_reducible refine a_eqI ?_ | with_reducible refine a_neI ?_ | with_reducible refine a_eqS ?_ | with_reducible refine a_neS ?_ | with_reducible refine a_test ?_ | with_reducible refine a_tB ?_ | with_reducible refine a_bl ?_ | with_reducible refine a_int ?_
  | with_reducible refine a_and ?_ | with_reducible refine a_or ?_ | with_reducible refine a_not ?_ | with_reducible refine a_andV ?_ | with_reducible refine a_orV ?_ | with_reducible refine a_notV ?_ | with_reducible refine a_ifE ?_ | with_reducible refine a_chain ?_ | with_reducible refine a_call ?_ | with_reducible refine a_cb ?_ | with_reducible refine a_star ?_
  | ((with_reducible refine a_nameX ?_); refine ⟨_, (by simp only [L2.wipe, L2.start, List.map_cons, List.map_nil, List.length_cons, List.length_nil, List.replicate_succ, List.replicate_zero, Nat.reduceSub, Nat.reduceAdd, Nat.zero_add, List.cons_append, List.nil_append, List.set_cons_zero, List.set_cons_succ]; exact rfl), ?_⟩) | with_reducible refine a_gcons ?_ | with_reducible refine a_gnil ?_ | with_reducible refine a_gsub ?_ | with_reducible refine a_par ?_ | ((with_reducible refine a_parX rfl ?_); refine ⟨_, (by simp only [L2.wipe, L2.start, List.map_cons, List.map_nil, List.length_cons, List.length_nil, List.replicate_succ, List.replicate_zero, Nat.reduceSub, Nat.reduceAdd, Nat.zero_add, List.cons_append, List.nil_append, List.set_cons_zero, List.set_cons_succ]; exact rfl), ?_⟩) | ((with_reducible refine a_augX ?_); refine ⟨_, rfl, ?_⟩) | with_reducible refine a_ipI ?_ | with_reducible refine a_tup ?_ | with_reducible refine a_lst ?_ | with_reducible refine a_sl ?_ | with_reducible refine a_sslX ?_
  | with_reducible refine a_tsl ?_ | with_reducible refine a_noPart ?_ | with_reducible refine a_part ?_ | with_reducible refine a_i1 ?_ | with_reducible refine a_i1b ?_ | with_reducible refine a_mx ?_ | with_reducible refine a_mn ?_ | with_reducible refine a_ab ?_ | with_reducible refine a_mat ?_ | with_reducible refine a_case ?_
  | ((with_reducible refine a_oneS ?_ ?_); omega) | ((with_reducible refine a_mask 1 ?_ ?_); decide) | ((with_reducible refine a_mask 3 ?_ ?_); decide) | ((with_reducible refine a_mask 6 ?_ ?_); decide) | ((with_reducible refine a_mask 9 ?_ ?_); decide) | ((with_reducible refine a_rI ?_ ?_); first | exact ⟨by decide, by decide⟩ | decide)
  | ((with_reducible refine a_shlK 12 ?_ ?_ ?_); rfl; exact shl_small (by omega) (by omega) (by decide)) | ((with_reducible refine a_shlK 9 ?_ ?_ ?_); rfl; exact shl_small (by omega) (by omega) (by decide)) | ((with_reducible refine a_shlK 6 ?_ ?_ ?_); rfl; exact shl_small (by omega) (by omega) (by decide)) | with_reducible refine a_kdGet ?_
  | with_reducible refine a_bm0 ?_ | with_reducible refine a_bm ?_ | with_reducible refine a_dnewT ?_ | with_reducible refine a_gsl ?_ | with_reducible refine a_mk ?_
  | with_reducible refine a_dget2 ?_ | with_reducible refine a_dnewK ?_ | with_reducible refine a_tli ?_ | with_reducible refine a_pair ?_ | with_reducible refine a_pair0 ?_
  | with_reducible refine a_lc ?_ | with_reducible refine a_itup ?_ | with_reducible refine a_ilst ?_ | with_reducible refine a_yes ?_ | with_reducible refine a_iitems ?_ | with_reducible refine a_dc ?_ | with_reducible refine a_isN0 ?_ | with_reducible refine a_notN0 ?_ | with_reducible refine a_izip ?_ | with_reducible refine a_dget ?_ | with_reducible refine a_propSl ?_ | with_reducible refine a_methSl ?_ | with_reducible refine a_for ?_ | with_reducible refine a_rng1 ?_ | with_reducible refine a_rng2 ?_
  | with_reducible refine iteT ?_ | with_reducible refine iteF ?_)
local macro_rules | `(tactic| walk_at "t") => `(tactic| refine ⟨Nat.le_of_ble_eq_true rfl, a_new ?_⟩)
local macro_rules | `(tactic| walk_at "w") => `(tactic| repeat walk_at "s")
local macro_rules | `(tactic| walk_at "t0") => `(tactic| refine ⟨Nat.le_of_ble_eq_true rfl, ?_⟩)
section
variable {K : PySem.W.Frag} {n : L2.St → Hp → Prop} {r : VK} {bk ct : L2.St → Hp → Prop} {σ : L2.St} {H : Hp}
theorem a_par3 {i j l : Nat} {ta : TA} (h : ta σ H fun vs H1 => ∃ u v w, vs = [u, v, w] ∧ n (((σ.set i (some u)).set j (some v)).set l (some w)) H1) : tPar3 i j l ta ⟨n, r, bk, ct⟩ σ H := h
theorem a_par3X {i j l : Nat} {a b c : V} {ys : List V} {R : L2.St → Hp → Prop} (e : ys = [a, b, c]) (h : ∃ σ', ((σ.set i (some a)).set j (some b)).set l (some c) = σ' ∧ R σ' H) : ∃ u v w, ys = [u, v, w] ∧ R (((σ.set i (some u)).set j (some v)).set l (some w)) H := by
  obtain ⟨σ', rfl, q⟩ := h
  exact ⟨a, b, c, e, q⟩
/-- a cut behind which the slots are as they were -/
theorem a_cutK {t u : L2.TS} (Mid : Hp → Prop) (h : t ⟨fun σ' H' => σ' = σ ∧ Mid H', r, bk, ct⟩ σ H) (q : ∀ H', Mid H' → u ⟨n, r, bk, ct⟩ σ H') : C8.tCut t u ⟨n, r, bk, ct⟩ σ H :=
  a_cut _ h fun σ' H' ⟨e, m⟩ => by rw [e]; exact q H' m
end
local macro_rules | `(tactic| walk_at "s") => `(tactic| first | with_reducible refine a_par3 ?_ | ((with_reducible refine a_par3X rfl ?_); refine ⟨_, (by simp only [L2.wipe, L2.start, List.map_cons, List.map_nil, List.length_cons, List.length_nil, List.replicate_succ, List.replicate_zero, Nat.reduceSub, Nat.reduceAdd, Nat.zero_add, List.cons_append, List.nil_append, List.set_cons_zero, List.set_cons_succ]; exact rfl), ?_⟩))
theorem stK_get (a b c d e f g : V) : valV (stK a b c d e f g) (.inr "pc") = some a ∧ valV (stK a b c d e f g) (.inr "registers") = some b ∧ valV (stK a b c d e f g) (.inr "memory") = some c ∧ valV (stK a b c d e f g) (.inr "ended") = some f :=
  ⟨rfl, rfl, rfl, rfl⟩
theorem stK_put (a b c d e f g x : V) : putK (stK a b c d e f g) (.inr "pc") x = stK x b c d e f g ∧ putK (stK a b c d e f g) (.inr "registers") x = stK a x c d e f g ∧ putK (stK a b c d e f g) (.inr "memory") x = stK a b x d e f g ∧ putK (stK a b c d e f g) (.inr "ended") x = stK a b c d e x g :=
  ⟨rfl, rfl, rfl, rfl⟩
section
variable {H : Hp} {A : Addr} {a b c d e f g : V}
theorem dg_pc (h : H A = some (.dK (stK a b c d e f g))) : DGet H A (.str "pc") (some a) := DGet.k (k := .inr "pc") h
theorem dg_rg (h : H A = some (.dK (stK a b c d e f g))) : DGet H A (.str "registers") (some b) := DGet.k (k := .inr "registers") h
theorem dg_me (h : H A = some (.dK (stK a b c d e f g))) : DGet H A (.str "memory") (some c) := DGet.k (k := .inr "memory") h
theorem dg_en (h : H A = some (.dK (stK a b c d e f g))) : DGet H A (.str "ended") (some f) := DGet.k (k := .inr "ended") h
/-- a store into the state -/
theorem a_stp {x : V} {k : Str} {R : Hp → Prop} {kvs : List (Key × V)} (h : H A = some (.dK (stK a b c d e f g))) (p : putK (stK a b c d e f g) (.inr k) x = kvs) (q : R (upd H A (.dK kvs))) : ∃ a' H', V.ref A = .ref a' ∧ DPut H a' (.str k) x H' ∧ R H' :=
  ⟨A, _, rfl, DPut.k (k := .inr k) h (show 7 < sizeLine from small1000 (by decide)), by rw [p]; exact q⟩
end
section
variable {P : Program} {w : World} {K : PySem.W.Frag} {mg : Str → Option Value} {base : Heap}
theorem sc_law_special : FnScope ["_law_shape", "_law_state", "_law_later", "_law_a", "_law_one", "_law_two", "_law_c", "_law_size"] ["_law_shape", "_law_state", "_law_later", "_law_a", "_law_one", "_law_two", "_law_c"] (defScope (top 112)) := ⟨rfl, rfl, rfl, by decide +kernel, rfl, by decide +kernel, by decide +kernel⟩
abbrev sp_law_special : Sp := fun vs H Q _ => ∃ (sv : V) (st L rg : Addr) (m R t j : Nat) (one two : Int) (p a1 a2 a3 a4 a5 a6 b0 b2 b3 b4 b5 b6 : V) (r : List Int), vs = [sv, .ref st, .ref L, .int (t : Int), .int one, .int two, .int ((j : Int) - 4)] ∧ IsL H sv m R ∧ (4 ≤ m ∧ m ≤ 16) ∧ (8 ≤ j ∧ j ≤ 10) ∧ Wd m one ∧ Wd m two ∧ st ≠ L ∧
  H st = some (.dK (stK p a1 a2 a3 a4 a5 a6)) ∧ H L = some (.dK (stK b0 (.ref rg) b2 b3 b4 b5 b6)) ∧ H rg = some (.lst (intV r)) ∧ t < r.length ∧
  (val2 m j one two = none → ∀ f H', (∀ x o, x ≠ L → H x = some o → H' x = some o) → H' L = some (.dK (stK p (.ref rg) b2 b3 b4 (.ref f) b6)) → H' f = some (.tup [.str "fault", .str "divide"]) → Q .non H') ∧
  (∀ v, val2 m j one two = some v → ∀ H', (∀ x o, x ≠ rg → H x = some o → H' x = some o) → H' rg = some (.lst (intV (r.set t v))) → Q .non H')
theorem ok_law_special (T : Txt w K mg base) : C8.Cal P w K mg base 2 "_law_special" sp_law_special [] := by
  refine cal_of T.f_law_special T.m_law_special sc_law_special (fun vs H Q E h => ?_) (fun _ _ _ _ _ _ us hl => match us, hl with | [_, _, _, _, _, _, _], _ => rfl) fun cdv A outer s H vs Q E hr h => ?_
  · obtain ⟨_, _, _, _, _, _, _, _, _, _, _, _, _, _, _, _, _, _, _, _, _, _, _, _, rfl, _⟩ := h; rfl
  obtain ⟨sv, st, L, rg, m, R, t, j, one, two, p, a1, a2, a3, a4, a5, a6, b0, b2, b3, b4, b5, b6, r, rfl, q⟩ := h
  refine ⟨_, pss_cons (ps_set (i := 7) sc_law_special.nd rfl (Or.inl rfl) (C8.pe_c (ok_law_two_to T) hr (by omega) rfl (pa_cons (pe_ix ix_tup (pv 0) (pe_int) (fun _ _ => rfl)) pa_nil)))
  (pss_one (ps_if (PW.pt (pw_or (pt_cmpR op_gt (pv 6) (pe_int) (nomark _)) (pw_or1 (PW.pt (pw_and (pt_cmpR op_in_seq (pv 6) (pe_tup (pa_cons (pe_int) (pa_cons (pe_int) pa_nil))) rfl) (pw_and1 (pt_cmpR op_eq (pv 5) (pe_int) (nomark _))))))))
    (pss_one (ps_asg (pe_tup (pa_cons (pe_tup (pa_cons (pe_str) (pa_cons (pe_ifExp (pt_cmpR op_gt (pv 6) (pe_int) (nomark _)) (pe_str) (pe_str)) pa_nil))) (pa_cons (pe_dget (hu_of hr) (pv 1) (pe_str) (fun _ _ => rfl)) pa_nil))) (pg_tup rfl (pgs_cons (pg_sub (pv 2) (pe_str) (set_dict (hu_of hr))) (pgs_cons (pg_sub (pv 2) (pe_str) (set_dict (hu_of hr))) pgs_nil)))))
    (pss_one (ps_if (pt_cmpR op_eq (pv 6) (pe_int) (nomark _))
        (pss_one (ps_never))
        (pss_one (ps_if (pt_cmpR op_eq (pv 6) (pe_int) (nomark _))
            (pss_one (ps_never))
            (pss_one (ps_if (pt_cmpR op_eq (pv 6) (pe_int) (nomark _))
                (pss_one (ps_never))
                (pss_one (ps_if (pt_cmpR op_eq (pv 6) (pe_int) (nomark _))
                    (pss_one (ps_never))
                    (pss_one (ps_asg (pe_ifExp (pt_cmpR op_eq (pv 6) (pe_int) (nomark _)) (pe_op op_mod (pe_op op_mul (pv 4) (pv 5)) (pv 7)) (pe_ifExp (pt_cmpR op_eq (pv 6) (pe_int) (nomark _)) (pe_op op_fdiv (pv 4) (pv 5)) (pe_op op_mod (pv 4) (pv 5)))) (pg_sub (pe_dget (hu_of hr) (pv 2) (pe_str) (fun _ _ => rfl)) (pv 3) set_list))))))))))))), ?_⟩
  obtain ⟨⟨sa, rfl, hs⟩, hm, hj, h1, h2, hne, hst, hL, hrg, ht, qn, qs⟩ := q
  have h1' := wd_lt hm.2 h1
  have h2' := wd_lt hm.2 h2
  walk_at "w"
  refine a_ixT (SqT.of hs) (at_of (j := 0) rfl rfl) ?_
  walk_at "w"
  refine ⟨m, rfl, hm.2, fun H1 S1 => ?_⟩
  walk_at "w"
  refine d_f (by omega) ?_
  walk_at "w"
  walk_at "t"
  intro p2 H2 n2 S2 e2
  refine a_inT (SqT.of e2) rfl rfl ?_
  rw [if_neg Bool.false_ne_true]
  have hin : inV (.int ((j : Int) - 4)) [.int 5, .int 6] = decide (j = 9 ∨ j = 10) := by
    have : j = 8 ∨ j = 9 ∨ j = 10 := by omega
    rcases this with rfl | rfl | rfl <;> rfl
  rw [hin]
  walk_at "w"
  have S02 := S1.trans S2
  by_cases hz : (j = 9 ∨ j = 10) ∧ two = 0
  · refine d_t hz.1 ?_
    walk_at "w"
    refine d_t hz.2 ?_
    walk_at "w"
    refine d_f (by omega) ?_
    walk_at "w"
    walk_at "t"
    intro pf H3 n3 S3 e3
    walk_at "w"
    have S03 := S02.trans S3
    refine ⟨st, _, rfl, dg_pc (via S03 hst), ?_⟩
    walk_at "w"
    walk_at "t"
    intro pt H4 n4 S4 e4
    have S04 := S03.trans S4
    walk_at "w"
    refine a_gtup (SqT.of e4) rfl ?_
    walk_at "w"
    refine a_stp (via S04 hL) (stK_put ..).2.2.2 ?_
    walk_at "w"
    refine a_stp upd_same (stK_put ..).1 ?_
    walk_at "w"
    have ev : val2 m j one two = none := by
      unfold val2
      rw [if_neg (by omega), if_neg (by omega), if_pos hz.2]
    have nf : pf ≠ L := fun z => by rw [z, via S02 hL] at n3; cases n3
    refine qn ev pf _ (fun x o hx e => by rw [upd_ne hx, upd_ne hx]; exact via S04 e) upd_same (by rw [upd_ne nf, upd_ne nf]; exact via S4 e3)
  · obtain ⟨v, hv⟩ : ∃ v, val2 m j one two = some v := by
      unfold val2
      rw [if_neg (by omega)]
      by_cases h4 : j = 8
      · exact ⟨_, by rw [if_pos (by omega)]⟩
      · rw [if_neg (by omega), if_neg fun h => hz ⟨by omega, h⟩]
        split <;> exact ⟨_, rfl⟩
    have fin : ∀ x : Int, some x = val2 m j one two → Q .non (upd H2 rg (.lst ((intV r).set t (.int x)))) := fun x e => by
      refine qs x e.symm _ (fun y o hy e => by rw [upd_ne hy]; exact via S02 e) ?_
      rw [upd_same]
      unfold intV
      rw [List.map_set]
    have hrg2 := via S02 hrg
    have hL2 := via S02 hL
    have hix : ixN (intV r).length (t : Int) = some t := by
      rw [intV_len]
      unfold ixN
      rw [if_pos (by omega), if_pos (by omega), Int.toNat_natCast]
    refine d_ite (fun hb => ?ya) fun hb => ?yb
    case' ya =>
      walk_at "w"
      refine d_f (fun h2 => hz ⟨hb, h2⟩) ?_
    all_goals
      walk_at "w"
      refine d_f (by omega) ?_
      walk_at "w"
      refine d_f (by omega) ?_
      walk_at "w"
      refine d_f (by omega) ?_
      walk_at "w"
      refine d_f (by omega) ?_
      walk_at "w"
    · refine d_f (by omega) ?_
      walk_at "w"
      by_cases h9 : j = 9
      · refine d_t (by omega) ?_
        walk_at "w"
        refine a_rI ⟨by omega, by omega⟩ ?_
        walk_at "w"
        refine ⟨L, _, rfl, dg_rg hL2, ?_⟩
        walk_at "w"
        refine a_setL hrg2 hix ?_
        walk_at "w"
        refine fin _ ?_
        unfold val2
        rw [if_neg (by omega), if_neg (by omega), if_neg (fun h => hz ⟨hb, h⟩), if_pos h9]
      · refine d_f (by omega) ?_
        walk_at "w"
        refine a_rI (show (0 : Int) < two by omega) ?_
        walk_at "w"
        refine ⟨L, _, rfl, dg_rg hL2, ?_⟩
        walk_at "w"
        refine a_setL hrg2 hix ?_
        walk_at "w"
        refine fin _ ?_
        unfold val2
        rw [if_neg (by omega), if_neg (by omega), if_neg (fun h => hz ⟨hb, h⟩), if_neg h9]
    · have h8 : j = 8 := by omega
      refine d_t (by omega) ?_
      walk_at "w"
      refine a_rI (.inl ⟨by omega, by omega⟩) ?_
      walk_at "w"
      refine a_rI (two_pos m) ?_
      walk_at "w"
      refine ⟨L, _, rfl, dg_rg hL2, ?_⟩
      walk_at "w"
      refine a_setL hrg2 hix ?_
      walk_at "w"
      refine fin _ ?_
      unfold val2
      rw [if_neg (by omega), if_pos h8]
/-- the law's state -/
def IsS (H : Hp) (c : Mc) (v : V) (s : Sx) : Prop := ∃ st rg me ou f, v = .ref st ∧ H st = some (.dK (stK (.int (s.pc : Int)) (.ref rg) (.ref me) (.int 0) (.bl false) (if s.bad = true then .ref f else .non) (.ref ou))) ∧ H rg = some (.lst (intV s.regs)) ∧ H me = some (.dK (memK c.mem)) ∧ (s.bad = true → H f = some (.tup [.str "fault", .str "divide"]))
theorem IsS.same {H H' : Hp} {c : Mc} {v : V} {s : Sx} (S : Same H H') (h : IsS H c v s) : IsS H' c v s := by
  obtain ⟨st, rg, me, ou, f, e, h1, h2, h3, h4⟩ := h
  exact ⟨st, rg, me, ou, f, e, S _ _ h1, S _ _ h2, S _ _ h3, fun b => S _ _ (h4 b)⟩
theorem upd_id {H : Hp} {a : Addr} {o : HO} (e : H a = some o) : upd H a o = H := by
  funext b
  by_cases h : b = a
  · rw [h, upd_same, e]
  · rw [upd_ne h]
theorem set_zero {r : Rg} (h : r[0]? = some 0) : (intV r).set 0 (.int 0) = intV r := by
  cases r with
  | nil => rfl
  | cons x r =>
    have : x = 0 := Option.some.inj h
    rw [this]; rfl
theorem exec_ok {c : Mc} {s : Sx} {i : Ins} {r : Rg} (hm : 1 ≤ c.m) (hl : ∀ k, Wd c.m (ldOf c.mem k)) (hf : i.fit c.R) (hs : s.Ok c) (e : exec c.m (ldOf c.mem) i s.regs = some r) : r.length = c.R ∧ (∀ x ∈ r, Wd c.m x) ∧ r[0]? = some 0 := by
  have key : ∀ (g : Nat) (v : Int), 0 < g → Wd c.m v → (s.regs.set g v).length = c.R ∧ (∀ x ∈ s.regs.set g v, Wd c.m x) ∧ (s.regs.set g v)[0]? = some 0 := fun g v h0 hv =>
    ⟨by rw [List.length_set]; exact hs.len, mem_set_wd hs.wd hv, by rw [List.getElem?_set_ne (by omega)]; exact hs.z⟩
  cases i with
  | put g n => cases e; exact key _ _ hf.1 (Wd.mod _ _)
  | load g n => cases e; exact key _ _ hf.1 (hl _)
  | op j g o =>
    have e' : (val2 c.m j (s.regs.getD g 0) (s.regs.getD o 0)).map (fun v => s.regs.set g v) = some r := e
    cases q : val2 c.m j (s.regs.getD g 0) (s.regs.getD o 0) with
    | none => rw [q] at e'; cases e'
    | some v =>
      rw [q] at e'
      cases e'
      exact key _ _ hf.2.1 (val2_wd hm (getD_wd hs.wd _) (getD_wd hs.wd _) q)
theorem stepS_ok {c : Mc} {s : Sx} (hm : 1 ≤ c.m) (hl : ∀ k, Wd c.m (ldOf c.mem k)) (hf : ∀ i ∈ c.ins, i.fit c.R) (hs : s.Ok c) : (stepS c s).Ok c := by
  unfold stepS
  cases hi : c.ins[s.pc]? with
  | none => exact hs
  | some i =>
    show (aft c.m s (exec c.m (ldOf c.mem) i s.regs)).Ok c
    cases he : exec c.m (ldOf c.mem) i s.regs with
    | none => exact ⟨hs.len, hs.wd, hs.z⟩
    | some r =>
      obtain ⟨h1, h2, h3⟩ := exec_ok hm hl (hf i (List.mem_of_getElem? hi)) hs he
      exact ⟨h1, h2, h3⟩
theorem ld_wd {m : Nat} {mem : List (Int × Int)} (h : ∀ p ∈ mem, Wd m p.1 ∧ Wd m p.2) (k : Int) : Wd m (ldOf mem k) := by
  unfold ldOf
  cases e : mem.find? fun p => decide (p.1 = k) with
  | none => exact ⟨Int.le_refl _, two_pos m⟩
  | some p => exact (h p (List.mem_of_find?_eq_some e)).2
end
end K83
end
section
set_option maxRecDepth 100000
set_option maxHeartbeats 4000000
namespace K83
open PySem PySem.Spec PyProof.Rows L2
local macro_rules | `(tactic| walk_at "s") => `(tactic| first
  | with_reducible refine a_seq ?_ | ((with_reducible refine a_varX ?_); refine ⟨_, rfl, ?_⟩) | with_reducible refine a_c ?_ | with_reducible refine a_op ?_ | with_reducible refine a_rI0 ?_ | with_reducible refine a_cons ?_ | with_reducible refine a_nil ?_
  | with_reducible refine a_next ?_ | with_reducible refine a_ret ?_ | with_reducible refine a_retN ?_ | with_reducible refine a_drop ?_ | with_reducible refine a_if ?_ | with_reducible refine a_asg ?_ | with_reducible refine a_un ?_
  | with_reducible refine a_rU ?_ | with_reducible refine a_eqI ?_ | with_reducible refine a_neI ?_ | with_reducible refine a_eqS ?_ | with_reducible refine a_neS ?_ | with_reducible refine a_test ?_ | with_reducible refine a_tB ?_ | with_reducible refine a_bl ?_ | with_reducible refine a_int ?_
  | with_reducible refine a_and ?_ | with_reducible refine a_or ?_ | with_reducible refine a_not ?_ | with_reducible refine a_andV ?_ | with_reducible refine a_orV ?_ | with_reducible refine a_notV ?_ | with_reducible refine a_ifE ?_ | with_reducible refine a_chain ?_ | with_reducible refine a_call ?_ | with_reducible refine a_cb ?_ | with_reducible refine a_star ?_
  | ((with_reducible refine a_nameX ?_); refine ⟨_, (by simp only [L2.wipe, L2.start, List.map_cons, List.map_nil, List.length_cons, List.length_nil, List.replicate_succ, List.replicate_zero, Nat.reduceSub, Nat.reduceAdd, Nat.zero_add, List.cons_append, List.nil_append, List.set_cons_zero, List.set_cons_succ]; exact rfl), ?_⟩) | with_reducible refine a_gcons ?_ | with_reducible refine a_gnil ?_ | with_reducible refine a_gsub ?_ | with_reducible refine a_par ?_ | ((with_reducible refine a_parX rfl ?_); refine ⟨_, (by simp only [L2.wipe, L2.start, List.map_cons, List.map_nil, List.length_cons, List.length_nil, List.replicate_succ, List.replicate_zero, Nat.reduceSub, Nat.reduceAdd, Nat.zero_add, List.cons_append, List.nil_append, List.set_cons_zero, List.set_cons_succ]; exact rfl), ?_⟩) | ((with_reducible refine a_augX ?_); refine ⟨_, rfl, ?_⟩) | with_reducible refine a_ipI ?_ | with_reducible refine a_tup ?_ | with_reducible refine a_lst ?_ | with_reducible refine a_sl ?_ | with_reducible refine a_sslX ?_
  | with_reducible refine a_tsl ?_ | with_reducible refine a_noPart ?_ | with_reducible refine a_part ?_ | with_reducible refine a_i1 ?_ | with_reducible refine a_i1b ?_ | with_reducible refine a_mx ?_ | with_reducible refine a_mn ?_ | with_reducible refine a_ab ?_ | with_reducible refine a_mat ?_ | with_reducible refine a_case ?_
  | ((with_reducible refine a_oneS ?_ ?_); omega) | ((with_reducible refine a_mask 1 ?_ ?_); decide) | ((with_reducible refine a_mask 3 ?_ ?_); decide) | ((with_reducible refine a_mask 6 ?_ ?_); decide) | ((with_reducible refine a_mask 9 ?_ ?_); decide) | ((with_reducible refine a_rI ?_ ?_); first | exact ⟨by decide, by decide⟩ | decide)
  | ((with_reducible refine a_shlK 12 ?_ ?_ ?_); rfl; exact shl_small (by omega) (by omega) (by decide)) | ((with_reducible refine a_shlK 9 ?_ ?_ ?_); rfl; exact shl_small (by omega) (by omega) (by decide)) | ((with_reducible refine a_shlK 6 ?_ ?_ ?_); rfl; exact shl_small (by omega) (by omega) (by decide)) | with_reducible refine a_kdGet ?_
  | with_reducible refine a_bm0 ?_ | with_reducible refine a_bm ?_ | with_reducible refine a_dnewT ?_ | with_reducible refine a_gsl ?_ | with_reducible refine a_mk ?_
  | with_reducible refine a_dget2 ?_ | with_reducible refine a_dnewK ?_ | with_reducible refine a_tli ?_ | with_reducible refine a_pair ?_ | with_reducible refine a_pair0 ?_
  | with_reducible refine a_lc ?_ | with_reducible refine a_itup ?_ | with_reducible refine a_ilst ?_ | with_reducible refine a_yes ?_ | with_reducible refine a_iitems ?_ | with_reducible refine a_dc ?_ | with_reducible refine a_isN0 ?_ | with_reducible refine a_notN0 ?_ | with_reducible refine a_izip ?_ | with_reducible refine a_dget ?_ | with_reducible refine a_propSl ?_ | with_reducible refine a_methSl ?_ | with_reducible refine a_for ?_ | with_reducible refine a_rng1 ?_ | with_reducible refine a_rng2 ?_
  | with_reducible refine iteT ?_ | with_reducible refine iteF ?_)
local macro_rules | `(tactic| walk_at "t") => `(tactic| refine ⟨Nat.le_of_ble_eq_true rfl, a_new ?_⟩)
local macro_rules | `(tactic| walk_at "w") => `(tactic| repeat walk_at "s")
local macro_rules | `(tactic| walk_at "t0") => `(tactic| refine ⟨Nat.le_of_ble_eq_true rfl, ?_⟩)
local macro_rules | `(tactic| walk_at "s") => `(tactic| first | with_reducible refine a_par3 ?_ | ((with_reducible refine a_par3X rfl ?_); refine ⟨_, (by simp only [L2.wipe, L2.start, List.map_cons, List.map_nil, List.length_cons, List.length_nil, List.replicate_succ, List.replicate_zero, Nat.reduceSub, Nat.reduceAdd, Nat.zero_add, List.cons_append, List.nil_append, List.set_cons_zero, List.set_cons_succ]; exact rfl), ?_⟩))
section
variable {P : Program} {w : World} {K : PySem.W.Frag} {mg : Str → Option Value} {base : Heap}
theorem stK_nd (a b c d e f g : V) : ((stK a b c d e f g).map (·.1)).Nodup := show ([.inr "pc", .inr "registers", .inr "memory", .inr "saved", .inr "allowed", .inr "ended", .inr "outputs"] : List Key).Nodup by decide +kernel
theorem memK_nd {m : Nat} {mem : List (Int × Int)} (h : MemOk m mem) : ((memK mem).map (·.1)).Nodup := by
  unfold memK; rw [List.map_map]; exact (List.pairwise_map.mpr (h.1.imp fun {a b} h e => Int.ne_of_lt h (Sum.inl.inj e)))
/-- the state behind the branches of a step, ahead of its last rows -/
def MidS (H : Hp) (L M ou : Addr) (c : Mc) (z : Sx) (H' : Hp) : Prop := Same H H' ∧ H L = none ∧ L ≠ M ∧ ∃ rg f, L ≠ rg ∧ H' L = some (.dK (stK (.int (z.pc : Int)) (.ref rg) (.ref M) (.int 0) (.bl false) (if z.bad = true then .ref f else .non) (.ref ou))) ∧ H' rg = some (.lst (intV z.regs)) ∧ H' M = some (.dK (memK c.mem)) ∧ (z.bad = true → L ≠ f ∧ H' f = some (.tup [.str "fault", .str "divide"]))
theorem sc_law_plain_step : FnScope ["_law_shape", "_law_program", "_law_state", "_law_size", "_law_here", "_law_held", "_law_op", "_law_a", "_law_b", "_law_c", "_law_to", "_law_low", "_law_later", "_law_one", "_law_two", "_law_third", "_law_place", "_law_is_less", "_law_some", "_law_at"] ["_law_shape", "_law_program", "_law_state"] (defScope (top 113)) := ⟨rfl, rfl, rfl, by decide +kernel, rfl, by decide +kernel, by decide +kernel⟩
abbrev sp_law_plain_step (K : PySem.W.Frag) : Sp := fun vs H Q _ => ∃ (sv v : V) (pr : Addr) (c : Mc) (s : Sx) (i : Ins), vs = [sv, .ref pr, v] ∧ IsL H sv c.m c.R ∧ c.Fit ∧ MemOk c.m c.mem ∧ SqT K H pr ((c.ins.map enc).map V.int) ∧ IsS H c v s ∧ s.Ok c ∧ s.bad = false ∧ c.ins[s.pc]? = some i ∧ ∀ v' H', Same H H' → IsS H' c v' (stepS c s) → Q v' H'
theorem ok_law_plain_step (T : Txt w K mg base) : C8.Cal P w K mg base 4 "_law_plain_step" (sp_law_plain_step K) [] := by
  refine cal_of T.f_law_plain_step T.m_law_plain_step sc_law_plain_step (fun vs H Q E h => ?_) (fun _ _ _ _ _ _ us hl => match us, hl with | [_, _, _], _ => rfl) fun cdv A outer s H vs Q E hr h => ?_
  · obtain ⟨_, _, _, _, _, _, rfl, _⟩ := h; rfl
  obtain ⟨sv, v, pr, c, s, i, rfl, q⟩ := h
  refine ⟨_, pss_cons (ps_par3 (i := 3) (j := 4) (l := 5) rfl sc_law_plain_step.nd rfl rfl rfl (by decide) (by decide) (by decide) rfl rfl rfl (pa_cons (C8.pe_c (ok_law_two_to T) hr (by omega) rfl (pa_cons (pe_ix ix_tup (pv 0) (pe_int) (fun _ _ => rfl)) pa_nil)) (pa_cons (pe_dget (hu_of hr) (pv 2) (pe_str) (fun _ _ => rfl)) (pa_cons (pe_dget (hu_of hr) (pv 2) (pe_str) (fun _ _ => rfl)) pa_nil))) rfl)
  (pss_cons (ps_asg (C8.pe_c (ok_law_fields T) hr (by omega) rfl (pa_cons (C8.pe_c (ok_law_word_at T) hr (by omega) rfl (pa_cons (pv 1) (pa_cons (pv 4) pa_nil))) pa_nil)) (pg_tup rfl (pgs_cons (pg_name (i := 6) sc_law_plain_step.nd rfl (Or.inl rfl)) (pgs_cons (pg_name (i := 7) sc_law_plain_step.nd rfl (Or.inl rfl)) (pgs_cons (pg_name (i := 8) sc_law_plain_step.nd rfl (Or.inl rfl)) (pgs_cons (pg_name (i := 9) sc_law_plain_step.nd rfl (Or.inl rfl)) pgs_nil))))))
  (pss_cons (ps_par3 (i := 10) (j := 11) (l := 12) rfl sc_law_plain_step.nd rfl rfl rfl (by decide) (by decide) (by decide) rfl rfl rfl (pa_cons (pe_op op_mod (pv 7) (pe_ix ix_tup (pv 0) (pe_int) (fun _ _ => rfl))) (pa_cons (C8.pe_c (ok_law_signed T) hr (by omega) rfl (pa_cons (pe_int) (pa_cons (pv 9) pa_nil))) (pa_cons (pe_callTy (call_dP rfl) (by rfl) T.n_dict (by decide +kernel) (pa_cons (LiI.pe_listItems rfl (pv 2) (by rfl) T.n_list rfl) pa_nil)) pa_nil))) rfl)
  (pss_cons (ps_par3 (i := 13) (j := 14) (l := 15) rfl sc_law_plain_step.nd rfl rfl rfl (by decide) (by decide) (by decide) rfl rfl rfl (pa_cons (pe_ix ix_list (pv 5) (pv 10) (fun _ _ => rfl)) (pa_cons (pe_ix ix_list (pv 5) (pe_op op_mod (pv 8) (pe_ix ix_tup (pv 0) (pe_int) (fun _ _ => rfl))) (fun _ _ => rfl)) (pa_cons (pe_ix ix_list (pv 5) (pe_op op_mod (pe_op op_mod (pv 9) (pe_int)) (pe_ix ix_tup (pv 0) (pe_int) (fun _ _ => rfl))) (fun _ _ => rfl)) pa_nil))) rfl)
  (pss_cons (ps_asg (pe_tup (pa_cons (pe_op op_mod (pe_op op_add (pv 4) (pe_int)) (pv 3)) (pa_cons (pe_callTy call_lstOf (by rfl) T.n_list (by decide +kernel) (pa_cons (pv 5) pa_nil)) pa_nil))) (pg_tup rfl (pgs_cons (pg_sub (pv 12) (pe_str) (set_dict (hu_of hr))) (pgs_cons (pg_sub (pv 12) (pe_str) (set_dict (hu_of hr))) pgs_nil))))
  (pss_cons (ps_asg (pe_callTy (call_dP rfl) (by rfl) T.n_dict (by decide +kernel) (pa_cons (LiI.pe_listItems rfl (pe_dget (hu_of hr) (pv 2) (pe_str) (fun _ _ => rfl)) (by rfl) T.n_list rfl) pa_nil)) (pg_sub (pv 12) (pe_str) (set_dict (hu_of hr))))
  (pss_cons (ps_set (i := 16) sc_law_plain_step.nd rfl (Or.inl rfl) (pe_op op_mod (pe_op op_add (pv 14) (pv 11)) (pv 3)))
  (C8.pss_cut (ps_if (pt_cmpR op_lt (pv 6) (pe_int) (nomark _))
    (pss_one (ps_asg (C8.pe_c (ok_law_reckoned T) hr (by omega) rfl (pa_cons (pv 0) (pa_cons (pv 6) (pa_cons (pv 14) (pa_cons (pv 15) pa_nil))))) (pg_sub (pe_dget (hu_of hr) (pv 12) (pe_str) (fun _ _ => rfl)) (pv 10) set_list)))
    (pss_one (ps_if (pt_cmpR op_in_seq (pv 6) (pe_tup (pa_cons (pe_int) (pa_cons (pe_int) pa_nil))) rfl)
        (pss_one (ps_asg (pe_ifExp (pt_cmpR op_eq (pv 6) (pe_int) (nomark _)) (pv 16) (pe_op op_mod (C8.pe_c (ok_law_signed T) hr (by omega) rfl (pa_cons (pe_int) (pa_cons (pe_op op_add (pe_op op_mul (pe_int) (pv 8)) (pv 9)) pa_nil))) (pv 3))) (pg_sub (pe_dget (hu_of hr) (pv 12) (pe_str) (fun _ _ => rfl)) (pv 10) set_list)))
        (pss_one (ps_if (pt_cmpR op_eq (pv 6) (pe_int) (nomark _))
            (pss_one (ps_asg (pe_dget2 (hu_of hr) (pe_dget (hu_of hr) (pv 2) (pe_str) (fun _ _ => rfl)) (pv 16) (pe_int) ⟨rfl, rfl, rfl, rfl⟩) (pg_sub (pe_dget (hu_of hr) (pv 12) (pe_str) (fun _ _ => rfl)) (pv 10) set_list)))
            (pss_one (ps_if (pt_cmpR op_eq (pv 6) (pe_int) (nomark _))
                (pss_one (ps_never))
                (pss_one (ps_if (pt_cmpR op_in_seq (pv 6) (pe_tup (pa_cons (pe_int) (pa_cons (pe_int) pa_nil))) rfl)
                    (pss_cons (ps_never)
                      (pss_one (ps_never)))
                    (pss_one (ps_if (pt_cmpR op_eq (pv 6) (pe_int) (nomark _))
                        (pss_one (ps_never))
                        (pss_one (ps_expr (C8.pe_c (ok_law_special T) hr (by omega) rfl (pa_cons (pv 0) (pa_cons (pv 2) (pa_cons (pv 12) (pa_cons (pv 10) (pa_cons (pv 13) (pa_cons (pv 14) (pa_cons (pv 9) pa_nil)))))))))))))))))))))
  (pss_cons (ps_asg (pe_int) (pg_sub (pe_dget (hu_of hr) (pv 12) (pe_str) (fun _ _ => rfl)) (pe_int) set_list))
  (pss_cons (ps_set (i := 18) sc_law_plain_step.nd rfl (Or.inr rfl) (pe_dget (hu_of hr) (pv 12) (pe_str) (fun _ _ => rfl)))
  (pss_cons (ps_asg (pe_callTy (call_dP rfl) (by rfl) T.n_dict (by decide +kernel) (pa_cons (pe_lc rfl sc_law_plain_step.nd (pi_list (pe_callB (call_sortD rfl) (by rfl) T.n_sorted (by decide +kernel) (pa_cons (pv 18) pa_nil))) (blkOk_by (N := ["_law_shape", "_law_program", "_law_state", "_law_size", "_law_here", "_law_held", "_law_op", "_law_a", "_law_b", "_law_c", "_law_to", "_law_low", "_law_later", "_law_one", "_law_two", "_law_third", "_law_place", "_law_is_less", "_law_some", "_law_at"]) (sc := defScope (top 113)) (own := [("_law_at", 19)]) (by decide +kernel)) (fun _ _ _ _ _ => pg_name (i := 19) sc_law_plain_step.nd rfl (Or.inl rfl)) (fun _ _ _ _ _ => pts_one (pt_cmpR op_ne (pe_dget (hu_of hr) (pv 18) (pv 19) (fun _ _ => rfl)) (pe_int) (nomark _))) (fun _ _ _ _ _ => pe_tup (pa_cons (pv 19) (pa_cons (pe_dget (hu_of hr) (pv 18) (pv 19) (fun _ _ => rfl)) pa_nil)))) pa_nil)) (pg_sub (pv 12) (pe_str) (set_dict (hu_of hr))))
  (pss_one (ps_ret (pv 12))))))))))))), ?_⟩
  obtain ⟨⟨sa, rfl, hsa⟩, hc, hmo, hpr, ⟨st, rg, me, ou, f, rfl, hst, hrg, hme, _⟩, hs, hbad, hi, q⟩ := q
  rw [hbad, if_neg Bool.false_ne_true] at hst
  have hR8 : 2 ≤ c.R ∧ c.R ≤ 8 := by rcases hc.R with h | h | h <;> omega
  have hfit := hc.ins i (List.mem_of_getElem? hi)
  have hm := hc.m
  have hlen := hs.len
  have hst' : stepS c s = aft c.m s (exec c.m (ldOf c.mem) i s.regs) := by unfold stepS; rw [hi]
  have hgoal : 0 < i.goal ∧ i.goal < c.R := by cases i <;> simp only [Ins.fit, Ins.goal] at hfit ⊢ <;> omega
  have hRpos : (0 : Int) < c.R := by omega
  have hfa : enc i / 512 % 8 = (i.goal : Int) := enc_goal hR8.2 hfit
  have w0 := Int.emod_nonneg (enc i) (show (64 : Int) ≠ 0 by decide)
  have w1 := Int.emod_lt_of_pos (enc i) (show (0 : Int) < 64 by decide)
  have zok := stepS_ok (by omega) (ld_wd hc.mem) hc.ins hs
  walk_at "w"
  refine a_ixT (SqT.of hsa) (at_of (j := 0) rfl rfl) ?_
  walk_at "w"
  refine ⟨c.m, rfl, hm.2, fun H1 S1 => ?_⟩
  walk_at "w"
  refine ⟨st, _, rfl, dg_pc (via S1 hst), ?_⟩
  walk_at "w"
  refine ⟨st, _, rfl, dg_rg (via S1 hst), ?_⟩
  walk_at "w"
  refine ⟨pr, s.pc, c.ins.map enc, enc i, rfl, sqT_same S1 hpr, by rw [List.getElem?_map, hi]; rfl, fun H2 S2 => ?_⟩
  walk_at "w"
  refine ⟨_, rfl, fun p3 H3 n3 S3 e3 => ?_⟩
  have S03 := (S1.trans S2).trans S3
  obtain ⟨o1, ho1⟩ : ∃ x, x = enc i / 4096 := ⟨_, rfl⟩
  obtain ⟨o3, ho3⟩ : ∃ x, x = enc i / 64 % 8 := ⟨_, rfl⟩
  obtain ⟨o4, ho4⟩ : ∃ x, x = enc i % 64 := ⟨_, rfl⟩
  obtain ⟨g, hg⟩ : ∃ x, x = i.goal := ⟨_, rfl⟩
  rw [← ho1, hfa, ← ho3, ← ho4, ← hg] at e3
  rw [← ho4] at w0 w1
  rw [← hg] at hgoal
  obtain ⟨b2, hb2, hb2R⟩ : ∃ b2 : Nat, o3 % (c.R : Int) = (b2 : Int) ∧ b2 < c.R := by
    have h1 := Int.emod_nonneg o3 (Int.ne_of_gt hRpos)
    have h2 := Int.emod_lt_of_pos o3 hRpos
    exact ⟨(o3 % (c.R : Int)).toNat, by omega, by omega⟩
  obtain ⟨b3, hb3, hb3R⟩ : ∃ b3 : Nat, o4 % 8 % (c.R : Int) = (b3 : Int) ∧ b3 < c.R := by
    have h1 := Int.emod_nonneg (o4 % 8) (Int.ne_of_gt hRpos)
    have h2 := Int.emod_lt_of_pos (o4 % 8) hRpos
    exact ⟨(o4 % 8 % (c.R : Int)).toNat, by omega, by omega⟩
  obtain ⟨va, hva⟩ : ∃ x, s.regs[g]? = some x := ⟨_, hs.get hgoal.2⟩
  obtain ⟨vb, hvb⟩ : ∃ x, s.regs[b2]? = some x := ⟨_, hs.get hb2R⟩
  obtain ⟨vo, hvo⟩ : ∃ x, s.regs[b3]? = some x := ⟨_, hs.get hb3R⟩
  obtain ⟨lw, hlw⟩ : ∃ x, x = sg 6 o4 := ⟨_, rfl⟩
  refine a_gtup (SqT.of e3) rfl ?_
  walk_at "w"
  refine a_ixT (SqT.of (via S03 hsa)) (at_of (j := 1) rfl rfl) ?_
  refine a_rI hRpos ?_
  rw [show (g : Int) % (c.R : Int) = (g : Int) from Int.emod_eq_of_lt (by omega) (by omega)]
  walk_at "w"
  refine ⟨6, o4, rfl, by decide, fun H4 S4 => ?_⟩
  rw [← hlw]
  have S04 := S03.trans S4
  walk_at "w"
  refine a_li (K := K) (via S04 hst) fun p5 H5 ts n5 S5 e5 z5 => ?_
  walk_at "w"
  refine a_dP (K := K) e5 z5 (stK_nd ..) (a_new fun L H6 n6 S6 e6 => ?_)
  have S06 := (S04.trans S5).trans S6
  have nL : H L = none := (S04.trans S5).free n6
  walk_at "w"
  refine a_ixL (SqL.of (via S06 hrg)) (at_of rfl (at_int hva)) ?_
  walk_at "w"
  refine a_ixT (SqT.of (via S06 hsa)) (at_of (j := 1) rfl rfl) ?_
  refine a_rI hRpos ?_
  rw [hb2]
  refine a_ixL (SqL.of (via S06 hrg)) (at_of rfl (at_int hvb)) ?_
  walk_at "w"
  refine a_ixT (SqT.of (via S06 hsa)) (at_of (j := 1) rfl rfl) ?_
  refine a_rI hRpos ?_
  rw [hb3]
  refine a_ixL (SqL.of (via S06 hrg)) (at_of rfl (at_int hvo)) ?_
  walk_at "w"
  refine a_rI (two_pos c.m) ?_
  walk_at "w"
  refine a_lstOfL (SqL.of (via S06 hrg)) (a_new fun rg2 H7 n7 S7 e7 => ?_)
  have S07 := S06.trans S7
  walk_at "w"
  walk_at "t"
  intro tp H8 n8 S8 e8
  have S08 := S07.trans S8
  have nrL : rg2 ≠ L := fun z => by rw [z, e6] at n7; cases n7
  walk_at "w"
  refine a_gtup (SqT.of e8) rfl ?_
  walk_at "w"
  refine a_stp (via S8 (via S7 e6)) (stK_put ..).1 ?_
  walk_at "w"
  refine a_stp upd_same (stK_put ..).2.1 ?_
  generalize hH9 : upd (upd H8 L _) L _ = H9
  have S09 : Same H H9 := by rw [← hH9]; exact same_upd (same_upd S08 nL) nL
  have eL9 : H9 L = some (.dK (stK (.int (((s.pc : Int) + 1) % 2 ^ c.m)) (.ref rg2) (.ref me) (.int 0) (.bl false) .non (.ref ou))) := by rw [← hH9]; exact upd_same
  have er9 : H9 rg2 = some (.lst (intV s.regs)) := by rw [← hH9, upd_ne nrL, upd_ne nrL]; exact S8 _ _ e7
  clear hH9
  walk_at "w"
  refine ⟨st, _, rfl, dg_me (via S09 hst), ?_⟩
  refine a_li (K := K) (via S09 hme) fun p10 H10 ts10 n10 S10 e10 z10 => ?_
  walk_at "w"
  refine a_dP (K := K) e10 z10 (memK_nd hmo) (a_new fun M H11 n11 S11 e11 => ?_)
  have S911 := S10.trans S11
  have nML : M ≠ L := fun z => by rw [z, via S10 eL9] at n11; cases n11
  have nMr : M ≠ rg2 := fun z => by rw [z, via S10 er9] at n11; cases n11
  walk_at "w"
  refine a_stp (via S911 eL9) (stK_put ..).2.2.1 ?_
  generalize hH12 : upd H11 L _ = H12
  have S012 : Same H H12 := by rw [← hH12]; exact same_upd (S09.trans S911) nL
  have eL : H12 L = some (.dK (stK (.int (((s.pc : Int) + 1) % 2 ^ c.m)) (.ref rg2) (.ref M) (.int 0) (.bl false) .non (.ref ou))) := by rw [← hH12]; exact upd_same
  have er : H12 rg2 = some (.lst (intV s.regs)) := by rw [← hH12, upd_ne nrL]; exact S911 _ _ er9
  have eM : H12 M = some (.dK (memK c.mem)) := by rw [← hH12, upd_ne nML]; exact e11
  clear hH12
  walk_at "w"
  refine a_rI (two_pos c.m) ?_
  walk_at "w"
  refine a_cutK (MidS H L M ou c (stepS c s)) ?_ ?_
  · rw [hst']
    have hix : ixN (intV s.regs).length (g : Int) = some g := by
      rw [intV_len]
      unfold ixN
      rw [if_pos (by omega), if_pos (by omega), Int.toNat_natCast]
    have fin : ∀ (x : Int) (H13 : Hp), Same H12 H13 → exec c.m (ldOf c.mem) i s.regs = some (s.regs.set g x) → MidS H L M ou c (aft c.m s (exec c.m (ldOf c.mem) i s.regs)) (upd H13 rg2 (.lst ((intV s.regs).set g (.int x)))) := by
      intro x H13 S13 ex
      rw [ex]
      have n2 : H rg2 = none := S06.free n7
      refine ⟨same_upd (S012.trans S13) n2, nL, nML.symm, rg2, L, nrL.symm, ?_, ?_, ?_, fun h => nomatch h⟩
      · rw [upd_ne nrL.symm]
        refine (S13 _ _ eL).trans ?_
        show _ = some (HO.dK (stK (.int (((s.pc + 1) % 2 ^ c.m : Nat) : Int)) _ _ _ _ _ _))
        rw [← pc_cast]; rfl
      · rw [upd_same]
        show some (HO.lst ((s.regs.map V.int).set g (.int x))) = some (HO.lst ((s.regs.set g x).map V.int))
        rw [List.map_set]
      · rw [upd_ne nMr]; exact S13 _ _ eM
    walk_at "w"
    cases i with
    | put g' n =>
      obtain ⟨f1, f2, f3, f4⟩ := enc_put hR8.2 hfit
      obtain ⟨g1, g2, n1', n2'⟩ := hfit
      obtain rfl : g' = g := hg.symm
      obtain rfl : o1 = 9 := ho1.trans f1
      obtain rfl : o3 = n % 512 / 64 := ho3.trans f3
      obtain rfl : o4 = n % 512 % 64 := ho4.trans f4
      refine d_f (by decide) ?_
      walk_at "w"
      walk_at "t"
      intro pt H13 n13 S13 e13
      refine a_inT (SqT.of e13) rfl rfl ?_
      rw [if_neg Bool.false_ne_true, show inV (.int 9) [.int 8, .int 9] = true from rfl]
      walk_at "w"
      refine d_f (by decide) ?_
      walk_at "w"
      refine a_rI (.inl ⟨by decide, by decide⟩) ?_
      walk_at "w"
      rw [show 64 * (n % 512 / 64) + n % 512 % 64 = n % 512 by omega]
      refine ⟨9, n % 512, rfl, by decide, fun H14 S14 => ?_⟩
      rw [sg_nine ⟨n1', n2'⟩]
      walk_at "w"
      refine a_rI (two_pos c.m) ?_
      walk_at "w"
      have S1214 := S13.trans S14
      refine ⟨L, _, rfl, dg_rg (via S1214 eL), ?_⟩
      walk_at "w"
      refine a_setL (via S1214 er) hix ?_
      walk_at "w"
      exact ⟨rfl, fin _ _ S1214 rfl⟩
    | load g' n =>
      obtain ⟨f1, f2, f3, f4⟩ := enc_load hR8.2 hfit
      obtain ⟨g1, g2, n1', n2'⟩ := hfit
      obtain rfl : g' = g := hg.symm
      obtain rfl : o1 = 10 := ho1.trans f1
      obtain rfl : o3 = 0 := ho3.trans f3
      obtain rfl : o4 = n := ho4.trans f4
      obtain rfl : lw = o4 := hlw.trans (sg_low ⟨n1', n2'⟩)
      obtain rfl : b2 = 0 := by rw [Int.zero_emod] at hb2; omega
      obtain rfl : vb = 0 := by rw [hs.z] at hvb; exact (Option.some.inj hvb).symm
      refine d_f (by decide) ?_
      walk_at "w"
      walk_at "t"
      intro pt H13 n13 S13 e13
      refine a_inT (SqT.of e13) rfl rfl ?_
      rw [if_neg Bool.false_ne_true, show inV (.int 10) [.int 8, .int 9] = false from rfl]
      walk_at "w"
      refine d_t rfl ?_
      walk_at "w"
      refine ⟨st, _, rfl, dg_me (via S13 (via S012 hst)), ?_⟩
      refine ⟨me, rfl, .inl ⟨_, Rd.of (via S13 (via S012 hme))⟩, ?_⟩
      walk_at "w"
      rw [Int.zero_add]
      refine ⟨_, DGet.k (k := .inl (lw % 2 ^ c.m)) (via S13 (via S012 hme)), ?_⟩
      rw [valV_memK]
      walk_at "w"
      refine ⟨L, _, rfl, dg_rg (via S13 eL), ?_⟩
      walk_at "w"
      refine a_setL (via S13 er) hix ?_
      walk_at "w"
      exact ⟨rfl, fin _ _ S13 rfl⟩
    | op j g' o =>
      obtain rfl : g' = g := hg.symm
      have hwa : Wd c.m va := hs.wd _ (List.mem_of_getElem? hva)
      have hwb : Wd c.m vb := hs.wd _ (List.mem_of_getElem? hvb)
      have hwo : Wd c.m vo := hs.wd _ (List.mem_of_getElem? hvo)
      by_cases hj : j < 8
      · obtain ⟨f1, f2, f3, f4⟩ := enc_plain hR8.2 hfit hj
        obtain ⟨j1, g1, g2, oo1, oo2⟩ := hfit
        obtain rfl : o1 = (j : Int) := ho1.trans f1
        obtain rfl : o3 = (g' : Int) := ho3.trans f3
        obtain rfl : o4 = (o : Int) := ho4.trans f4
        obtain rfl : b2 = g' := by rw [Int.emod_eq_of_lt (by omega) (by omega)] at hb2; omega
        obtain rfl : b3 = o := by rw [Int.emod_eq_of_lt (by omega) (show (o : Int) < 8 by omega), Int.emod_eq_of_lt (by omega) (by omega)] at hb3; omega
        refine d_t (by omega) ?_
        walk_at "w"
        refine ⟨.ref sa, c.m, c.R, j, vb, vo, rfl, ⟨sa, rfl, via S012 hsa⟩, hm, hj, hwb, hwo, fun H13 S13 => ?_⟩
        walk_at "w"
        refine ⟨L, _, rfl, dg_rg (via S13 eL), ?_⟩
        walk_at "w"
        refine a_setL (via S13 er) hix ?_
        walk_at "w"
        refine ⟨rfl, fin _ _ S13 ?_⟩
        show (val2 c.m j (s.regs.getD b2 0) (s.regs.getD b3 0)).map (fun v => s.regs.set b2 v) = _
        unfold val2
        rw [if_pos hj, getD_of hvb, getD_of hvo]; rfl
      · obtain ⟨f1, f2, f3, f4⟩ := enc_long hR8.2 hfit hj
        obtain ⟨j1, g1, g2, oo1, oo2⟩ := hfit
        obtain rfl : o1 = 15 := ho1.trans f1
        obtain rfl : o3 = (o : Int) := ho3.trans f3
        obtain rfl : o4 = (j : Int) - 4 := ho4.trans f4
        obtain rfl : b2 = o := by rw [Int.emod_eq_of_lt (by omega) (by omega)] at hb2; omega
        refine d_f (by decide) ?_
        walk_at "w"
        walk_at "t"
        intro pt H13 n13 S13 e13
        refine a_inT (SqT.of e13) rfl rfl ?_
        rw [if_neg Bool.false_ne_true, show inV (.int 15) [.int 8, .int 9] = false from rfl]
        walk_at "w"
        refine d_f (by decide) ?_
        walk_at "w"
        refine d_f (by decide) ?_
        walk_at "w"
        walk_at "t"
        intro pt2 H14 n14 S14 e14
        refine a_inT (SqT.of e14) rfl rfl ?_
        rw [if_neg Bool.false_ne_true, show inV (.int 15) [.int 12, .int 13] = false from rfl]
        walk_at "w"
        refine d_f (by decide) ?_
        walk_at "w"
        have S1214 := S13.trans S14
        have S014 := S012.trans S1214
        have nsL : st ≠ L := fun z => by rw [z, nL] at hst; cases hst
        have exj : exec c.m (ldOf c.mem) (.op j g' b2) s.regs = (val2 c.m j va vb).map fun v => s.regs.set g' v := by
          show (val2 c.m j (s.regs.getD g' 0) (s.regs.getD b2 0)).map (fun v => s.regs.set g' v) = _
          rw [getD_of hva, getD_of hvb]
        refine ⟨.ref sa, st, L, rg2, c.m, c.R, g', j, va, vb, _, _, _, _, _, _, _, _, _, _, _, _, _, s.regs, rfl, ⟨sa, rfl, via S014 hsa⟩, hm, ⟨by omega, by omega⟩, hwa, hwb, nsL, via S014 hst, via S1214 eL, via S1214 er, by omega, fun ev f' H15 K15 e15 f15 => ?_, fun x ev H15 K15 e15 => ?_⟩
        · walk_at "w"
          refine ⟨rfl, ?_⟩
          rw [exj, ev]
          have nf : f' ≠ L := fun z => by rw [z, e15] at f15; cases f15
          refine ⟨fun b o e => K15 b o (ne_of_none e nL) (via S014 e), nL, nML.symm, rg2, f', nrL.symm, e15, K15 _ _ nrL (via S1214 er), K15 _ _ nML (via S1214 eM), fun _ => ⟨nf.symm, f15⟩⟩
        · walk_at "w"
          refine ⟨rfl, ?_⟩
          have z := fin x H14 S1214 (by rw [exj, ev]; rfl)
          rw [exj, ev]
          have n2 : H rg2 = none := S06.free n7
          refine ⟨fun b o e => K15 b o (ne_of_none e n2) (via S014 e), nL, nML.symm, rg2, L, nrL.symm, ?_, e15, K15 _ _ nMr (via S1214 eM), fun h => nomatch h⟩
          refine (K15 _ _ nrL.symm (via S1214 eL)).trans ?_
          show _ = some (HO.dK (stK (.int (((s.pc + 1) % 2 ^ c.m : Nat) : Int)) _ _ _ _ _ _))
          rw [← pc_cast]; rfl
  · intro H13 ⟨S13, _, nLM, rg3, f3, nLr, e13, er13, eM13, ef13⟩
    generalize stepS c s = z at *
    walk_at "w"
    refine ⟨L, _, rfl, dg_rg e13, ?_⟩
    walk_at "w"
    refine a_setL er13 (j := 0) (by rw [intV_len, zok.len]; unfold ixN; rw [if_pos (by decide), if_pos (by omega)]; rfl) ?_
    rw [set_zero zok.z, upd_id er13]
    walk_at "w"
    refine ⟨L, _, rfl, dg_me e13, ?_⟩
    walk_at "w"
    refine a_sortD eM13 (ks := c.mem.map (·.1)) (by unfold memK; rw [List.map_map, List.map_map]; rfl) (by rw [List.length_map]; have := hmo.2.1; omega) fun ys y1 y2 => ?_
    obtain rfl := sorted_self y1 y2 hmo.keys
    refine a_new fun p14 H14 n14 S14 e14 => ?_
    refine ⟨p14, rfl, ⟨_, SqL.of e14⟩, ?_⟩
    refine lc_pairs (SqL.of e14) (by rw [List.length_map]; have := hmo.2.1; omega) (fun _ => true) (fun k => .int (ldOf c.mem k)) (fun k H' R' N' hk S' h1 h2 => ?_) fun D H15 ps S15 n15 e15 z15 => ?_
    · have gk := DGet.k (k := .inl k) ((S14.trans S') _ _ eM13)
      rw [val_at hk] at gk
      walk_at "w"
      refine ⟨rfl, ?_⟩
      walk_at "w"
      refine ⟨M, _, rfl, gk, ?_⟩
      walk_at "w"
      refine d_nt (hmo.2.2 _ (ld_mem hk)).2.2 ?_
      walk_at "w"
      refine ⟨M, _, rfl, gk, ?_⟩
      walk_at "w"
      walk_at "t"
      intro p H16 n16 S16 e16
      exact h1 rfl p H16 S16 e16
    · rw [List.filter_eq_self.mpr fun _ _ => rfl] at z15
      rw [mem_find hmo] at z15
      walk_at "w"
      refine a_dP (K := K) e15 z15 (memK_nd hmo) ?_
      refine a_new fun M2 H16 n16 S16 e16 => ?_
      have S1316 := (S14.trans S15).trans S16
      have nM2 : M2 ≠ L := fun z => by rw [z, via S15 (via S14 e13)] at n16; cases n16
      walk_at "w"
      refine a_stp (via S1316 e13) (stK_put ..).2.2.1 ?_
      walk_at "w"
      refine q _ _ (same_upd (S13.trans S1316) nL) ⟨L, rg3, M2, ou, f3, rfl, upd_same, ?_, ?_, fun hb => ?_⟩
      · rw [upd_ne nLr.symm]; exact via S1316 er13
      · rw [upd_ne nM2]; exact e16
      · rw [upd_ne (ef13 hb).1.symm]; exact via S1316 (ef13 hb).2
end
end K83
end
section
set_option maxRecDepth 100000
set_option maxHeartbeats 4000000
namespace K83
/-! ## (..) != (..), two tuples whose items are equal one by one, dicts among them -/
section
open PySem PySem.SeqAt PySem.AutoSeq1 PySem.MeetsSeq PySem.MeetsSeq2 PySem.MeetsSeq3 PySem.SeqRoads2
open PySem.AutoSeq1 (wpAny_loadPart')
variable {prog : Program} {w : World}
theorem tupNe (l b : Addr) (us vs : Array Value) (n m : Nat) (d1 d2 : Option Addr) (s1 s2 : Array (Option Value)) (hs : us.size = vs.size) :
    MeetsIn prog w (Builtin.«tuple.__ne__» ⟨[.ref l, .ref b], []⟩) fun A R s =>
      s.heap.get? l = some { cls := .type "tuple", dict := d1, data := .seq us n, slots := s1 } ∧ s.heap.get? b = some { cls := .type "tuple", dict := d2, data := .seq vs m, slots := s2 } ∧
        (∀ j (h1 : j < us.size) (h2 : j < vs.size), EqP prog w A.in1 s us[j] vs[j] true) ∧ R (.ok (.ret (.bool false))) s := by
  intro A R s q
  obtain ⟨hp, g, d, tk, os⟩ := s
  obtain ⟨ql, qb, qe, q⟩ := q
  have tt := AutoSeq1.sub_tuple_tuple
  have hZ : (us.toList.zip vs.toList).length = us.size := by simp [hs]
  wp_walk using wpAny_loadPart' ql, wpAny_loadPart' qb, wpAny_forIn_list _ (fun rest b s' => b.1 = none ∧ s' = ⟨hp, g, d, tk, os⟩ ∧ ∃ i, rest = (us.toList.zip vs.toList).drop i) _
  case turn =>
    rintro ⟨y, x⟩ rest b s' ⟨_, rfl, i, hz⟩
    have lt : i < (us.toList.zip vs.toList).length := by
      rcases Nat.lt_or_ge i (us.toList.zip vs.toList).length with h | h
      · exact h
      · rw [List.drop_of_length_le h] at hz; cases hz
    rw [List.drop_eq_getElem_cons lt] at hz
    injection hz with e1 e2
    have lu : i < us.size := hZ ▸ lt
    have hy : y = us[i] := by simpa using congrArg Prod.fst e1
    have hx : x = vs[i]'(hs ▸ lu) := by simpa using congrArg Prod.snd e1
    subst hy hx
    refine wpAny_bind (qe i lu (hs ▸ lu) _ _ ?_)
    wp_walk
    exact ⟨rfl, rfl, i + 1, e2⟩
  case fin =>
    rintro ⟨b1, b2⟩ s' ⟨e, rfl, _⟩
    simp only at e
    subst e
    wp_walk
    first
      | exact ⟨_, rfl, by simpa [Builtin.Tuple.tupleCompareSizes, bne, hs] using q⟩
      | simpa [Builtin.Tuple.tupleCompareSizes, bne, hs] using q
  case h => exact ⟨rfl, rfl, 0, rfl⟩
end
open PySem PySem.Spec PyProof.Rows L2
/-- equal items: as EqV has it, or plain data -/
def EqI (K : PySem.W.Frag) (H : Hp) (x y : V) : Prop := EqV K H 3 x y ∨ ∃ d e, Dp K H x d ∧ Dp K H y e ∧ SeqAt.shaped d = true ∧ SeqAt.shaped e = true ∧ PyData.eqv d e = true
section
variable {X : Cx} {pins : List (Addr × Obj)} {σ : L2.St} {H : Hp} {s : Shared}
theorem eqI_run (I : Inv X pins σ H s) {A : Around} (hu : A.units + 64 < cLine) {x y : V} {v u : Value} (h : EqI X.K H x y) (rx : RelV x v) (ry : RelV y u) : SeqAt.EqP X.prog X.w A s v u true := by
  rcases h with h | ⟨d, e, hd, he, sd, se, q⟩
  · exact eqV_run I 3 A (by omega) x y v u h rx ry
  · obtain ⟨as, r1⟩ := Dp.reads I d x v hd rx
    obtain ⟨bs, r2⟩ := Dp.reads I e y u he ry
    have z := (SeqAt.eqAt_reads d e A s v u as bs r1 r2 (SeqAt.canLay_of_shaped sd) (SeqAt.canLay_of_shaped se) (SeqAt.room_of_shaped sd hu))
    rw [q] at z
    exact z.eqP
def rNeI (K : PySem.W.Frag) : R2 := fun x y H Q => ∃ a b xs ys, x = .ref a ∧ y = .ref b ∧ SqT K H a xs ∧ SqT K H b ys ∧ Paired (EqI K H) xs ys ∧ Q (.bl false) H
theorem op_neI (hu : X.A.units + 80 < cLine) : OpR X (compareOp .NotEq) (rNeI X.K) := by
  intro pins s σ H x y v u Q I rx ry h
  obtain ⟨a, b, xs, ys, rfl, rfl, ha, hb, hp, q⟩ := h
  obtain rfl : v = Value.ref a := rx
  obtain rfl : u = Value.ref b := ry
  obtain ⟨us, r1, ⟨o1, e1, c1, n1, d1⟩, _⟩ := I.tuple ha
  obtain ⟨ws, r2, ⟨o2, e2, c2, n2, d2⟩, _⟩ := I.tuple hb
  obtain ⟨k1, dd1, dt1, sl1⟩ := o1
  obtain ⟨k2, dd2, dt2, sl2⟩ := o2
  simp only at c1 d1 c2 d2
  subst c1 d1 c2 d2
  have hs : us.toArray.size = ws.toArray.size := by
    rw [List.size_toArray, List.size_toArray, ← r1.length, ← r2.length]
    exact Paired.length hp
  refine wpAny_richCompare_same_room (T := "tuple") (op := .NotEq) ⟨_, e1, rfl⟩ ⟨_, e2, rfl⟩ PySem.F.slot_tuple_ne (call_meetsIn PySem.F.slot_tuple_ne ⟨_, e1, rfl⟩ PySem.F.entry_tuple_ne (PySem.F.args_tuple_ne_2 _ _) (tupNe a b us.toArray ws.toArray n1 n2 dd1 dd2 sl1 sl2 hs)
    ⟨e1, e2, fun j h1 h2 => ?_, show Value.bool false ≠ Value.notImplemented ∧ _ from ⟨(fun x => nomatch x), .bl false, H, I, rfl, q⟩⟩) (by omega)
  have k := items_run (P := X.prog) (w := X.w) (A := X.A.in1) (s := s) (F := EqI X.K H) (fun x y v u h rx ry => eqI_run I (by show X.A.units + 1 + 64 < cLine; omega) h rx ry) hp r1 r2 j (by simpa using h1) (by simpa using h2)
  simpa using k
theorem a_neI2 {K : PySem.W.Frag} {Q : VK} {a b : Addr} {xs ys : List V} (ha : SqT K H a xs) (hb : SqT K H b ys) (hp : Paired (EqI K H) xs ys) (q : Q (.bl false) H) : rNeI K (.ref a) (.ref b) H Q := ⟨a, b, xs, ys, rfl, rfl, ha, hb, hp, q⟩
end
end K83
end
section
set_option maxRecDepth 100000
set_option maxHeartbeats 4000000
namespace K83
open PySem PySem.Spec PyProof.Rows L2 LamX
local macro_rules | `(tactic| walk_at "s") => `(tactic| first
  | with_reducible refine a_seq ?_ | ((with_reducible refine a_varX ?_); refine ⟨_, rfl, ?_⟩) | with_reducible refine a_c ?_ | with_reducible refine a_op ?_ | with_reducible refine a_rI0 ?_ | with_reducible refine a_cons ?_ | with_reducible refine a_nil ?_
  | with_reducible refine a_next ?_ | with_reducible refine a_ret ?_ | with_reducible refine a_retN ?_ | with_reducible refine a_drop ?_ | with_reducible refine a_if ?_ | with_reducible refine a_asg ?_ | with_reducible refine a_un ?_
  | with_reducible refine a_rU ?_ | with_reducible refine a_eqI ?_ | with_reducible refine a_neI ?_ | with_reducible refine a_eqS ?_ | with_reducible refine a_neS ?_ | with_reducible refine a_test ?_ | with_reducible refine a_tB ?_ | with_reducible refine a_bl ?_ | with_reducible refine a_int ?_
  | with_reducible refine a_and ?_ | with_reducible refine a_or ?_ | with_reducible refine a_not ?_ | with_reducible refine a_andV ?_ | with_reducible refine a_orV ?_ | with_reducible refine a_notV ?_ | with_reducible refine a_ifE ?_ | with_reducible refine a_chain ?_ | with_reducible refine a_call ?_ | with_reducible refine a_cb ?_ | with_reducible refine a_star ?_
  | ((with_reducible refine a_nameX ?_); refine ⟨_, (by simp only [L2.wipe, L2.start, List.map_cons, List.map_nil, List.length_cons, List.length_nil, List.replicate_succ, List.replicate_zero, Nat.reduceSub, Nat.reduceAdd, Nat.zero_add, List.cons_append, List.nil_append, List.set_cons_zero, List.set_cons_succ]; exact rfl), ?_⟩) | with_reducible refine a_gcons ?_ | with_reducible refine a_gnil ?_ | with_reducible refine a_gsub ?_ | with_reducible refine a_par ?_ | ((with_reducible refine a_parX rfl ?_); refine ⟨_, (by simp only [L2.wipe, L2.start, List.map_cons, List.map_nil, List.length_cons, List.length_nil, List.replicate_succ, List.replicate_zero, Nat.reduceSub, Nat.reduceAdd, Nat.zero_add, List.cons_append, List.nil_append, List.set_cons_zero, List.set_cons_succ]; exact rfl), ?_⟩) | ((with_reducible refine a_augX ?_); refine ⟨_, rfl, ?_⟩) | with_reducible refine a_ipI ?_ | with_reducible refine a_tup ?_ | with_reducible refine a_lst ?_ | with_reducible refine a_sl ?_ | with_reducible refine a_sslX ?_
  | with_reducible refine a_tsl ?_ | with_reducible refine a_noPart ?_ | with_reducible refine a_part ?_ | with_reducible refine a_i1 ?_ | with_reducible refine a_i1b ?_ | with_reducible refine a_mx ?_ | with_reducible refine a_mn ?_ | with_reducible refine a_ab ?_ | with_reducible refine a_mat ?_ | with_reducible refine a_case ?_
  | ((with_reducible refine a_oneS ?_ ?_); omega) | ((with_reducible refine a_mask 1 ?_ ?_); decide) | ((with_reducible refine a_mask 3 ?_ ?_); decide) | ((with_reducible refine a_mask 6 ?_ ?_); decide) | ((with_reducible refine a_mask 9 ?_ ?_); decide) | ((with_reducible refine a_rI ?_ ?_); first | exact ⟨by decide, by decide⟩ | decide)
  | ((with_reducible refine a_shlK 12 ?_ ?_ ?_); rfl; exact shl_small (by omega) (by omega) (by decide)) | ((with_reducible refine a_shlK 9 ?_ ?_ ?_); rfl; exact shl_small (by omega) (by omega) (by decide)) | ((with_reducible refine a_shlK 6 ?_ ?_ ?_); rfl; exact shl_small (by omega) (by omega) (by decide)) | with_reducible refine a_kdGet ?_
  | with_reducible refine a_bm0 ?_ | with_reducible refine a_bm ?_ | with_reducible refine a_dnewT ?_ | with_reducible refine a_gsl ?_ | with_reducible refine a_mk ?_
  | with_reducible refine a_dget2 ?_ | with_reducible refine a_dnewK ?_ | with_reducible refine a_tli ?_ | with_reducible refine a_pair ?_ | with_reducible refine a_pair0 ?_
  | with_reducible refine a_lc ?_ | with_reducible refine a_itup ?_ | with_reducible refine a_ilst ?_ | with_reducible refine a_yes ?_ | with_reducible refine a_iitems ?_ | with_reducible refine a_dc ?_ | with_reducible refine a_isN0 ?_ | with_reducible refine a_notN0 ?_ | with_reducible refine a_izip ?_ | with_reducible refine a_dget ?_ | with_reducible refine a_propSl ?_ | with_reducible refine a_methSl ?_ | with_reducible refine a_for ?_ | with_reducible refine a_rng1 ?_ | with_reducible refine a_rng2 ?_
  | with_reducible refine iteT ?_ | with_reducible refine iteF ?_)
local macro_rules | `(tactic| walk_at "t") => `(tactic| refine ⟨Nat.le_of_ble_eq_true rfl, a_new ?_⟩)
local macro_rules | `(tactic| walk_at "w") => `(tactic| repeat walk_at "s")
local macro_rules | `(tactic| walk_at "t0") => `(tactic| refine ⟨Nat.le_of_ble_eq_true rfl, ?_⟩)
/-! ## the steps of a formula keep to their registers -/
theorem comp_fit {R : Nat} : ∀ (f : Fm) (rs : List Nat), f.ok → f.ht ≤ rs.length → (∀ x ∈ rs, 0 < x ∧ x < R) → ∀ i ∈ comp f rs, i.fit R ∧ i.goal ∈ rs
  | .num n, [], _, h, _ => absurd h (Nat.not_succ_le_zero 0)
  | .cell n, [], _, h, _ => absurd h (Nat.not_succ_le_zero 0)
  | .num n, g :: tl, ho, _, hx => fun i hi => by
    have hg := hx g (List.mem_cons_self ..)
    cases List.mem_singleton.mp (show i ∈ [Ins.put g n] from hi)
    exact ⟨⟨hg.1, hg.2, ho.1, ho.2⟩, List.mem_cons_self ..⟩
  | .cell c, g :: tl, ho, _, hx => fun i hi => by
    have hg := hx g (List.mem_cons_self ..)
    cases List.mem_singleton.mp (show i ∈ [Ins.load g c] from hi)
    exact ⟨⟨hg.1, hg.2, ho.1, ho.2⟩, List.mem_cons_self ..⟩
  | .two j l k, rs, ho, hh, hx => by
    have p1 := l.ht_pos
    have p2 := k.ht_pos
    rw [Fm.ht_two] at hh
    obtain ⟨g, o, tl, rfl⟩ : ∃ g o tl, rs = g :: o :: tl := by
      match rs with
      | [] => simp only [List.length_nil] at hh; split at hh <;> omega
      | [_] => simp only [List.length_cons, List.length_nil] at hh; split at hh <;> omega
      | g :: o :: tl => exact ⟨g, o, tl, rfl⟩
    simp only [List.length_cons] at hh
    have hg := hx g (List.mem_cons_self ..)
    have hO := hx o (List.mem_cons_of_mem _ (List.mem_cons_self ..))
    have ht : ∀ x ∈ tl, 0 < x ∧ x < R := fun x h => hx x (List.mem_cons_of_mem _ (List.mem_cons_of_mem _ h))
    have last : ∀ i : Ins, i ∈ [Ins.op j g o] → i.fit R ∧ i.goal ∈ g :: o :: tl := fun i hi => by
      cases List.mem_singleton.mp hi
      exact ⟨⟨ho.1, hg.1, hg.2, hO.1, hO.2⟩, List.mem_cons_self ..⟩
    intro i hi
    unfold comp at hi
    by_cases hc : k.ht ≤ l.ht
    · rw [if_pos hc] at hi
      rcases List.mem_append.mp hi with hi | hi
      · rcases List.mem_append.mp hi with hi | hi
        · exact comp_fit l (g :: o :: tl) ho.2.1 (by simp only [List.length_cons]; split at hh <;> omega) hx i hi
        · have z := comp_fit k (o :: tl) ho.2.2 (by simp only [List.length_cons]; split at hh <;> omega) (fun x h => hx x (List.mem_cons_of_mem _ h)) i hi
          exact ⟨z.1, List.mem_cons_of_mem _ z.2⟩
      · exact last i hi
    · rw [if_neg hc] at hi
      rcases List.mem_append.mp hi with hi | hi
      · rcases List.mem_append.mp hi with hi | hi
        · have z := comp_fit k (o :: g :: tl) ho.2.2 (by simp only [List.length_cons]; split at hh <;> omega) (fun x h => by
            rcases List.mem_cons.mp h with h | h
            · rw [h]; exact hO
            · rcases List.mem_cons.mp h with h | h
              · rw [h]; exact hg
              · exact ht x h) i hi
          refine ⟨z.1, ?_⟩
          rcases List.mem_cons.mp z.2 with h | h
          · rw [h]; exact List.mem_cons_of_mem _ (List.mem_cons_self ..)
          · rcases List.mem_cons.mp h with h | h
            · rw [h]; exact List.mem_cons_self ..
            · exact List.mem_cons_of_mem _ (List.mem_cons_of_mem _ h)
        · have z := comp_fit l (g :: tl) ho.2.1 (by simp only [List.length_cons]; split at hh <;> omega) (fun x h => by
            rcases List.mem_cons.mp h with h | h
            · rw [h]; exact hg
            · exact ht x h) i hi
          refine ⟨z.1, ?_⟩
          rcases List.mem_cons.mp z.2 with h | h
          · rw [h]; exact List.mem_cons_self ..
          · exact List.mem_cons_of_mem _ (List.mem_cons_of_mem _ h)
      · exact last i hi
/-! ## the machine's turns are the steps in a row -/
theorem stepS_at {c : Mc} {s : Sx} {i : Ins} (h : c.ins[s.pc]? = some i) : stepS c s = aft c.m s (exec c.m (ldOf c.mem) i s.regs) := by unfold stepS; rw [h]
theorem iterS_succ (c : Mc) (n : Nat) (s : Sx) : iterS c (n + 1) s = if (iterS c n s).bad = true then iterS c n s else stepS c (iterS c n s) := rfl
structure Turns (c : Mc) (r0 : Rg) (j : Nat) (z : Sx) : Prop where
  regs : z.regs = (execs c.m (ldOf c.mem) (c.ins.take j) r0).1
  bad : z.bad = !(execs c.m (ldOf c.mem) (c.ins.take j) r0).2
  pc : z.bad = false → z.pc = j
  ok : z.Ok c
theorem turns {c : Mc} {r0 : Rg} (hm : 1 ≤ c.m) (hN : c.ins.length < 2 ^ c.m) (hl : ∀ k, Wd c.m (ldOf c.mem k)) (hf : ∀ i ∈ c.ins, i.fit c.R) (h0 : (⟨0, r0, false⟩ : Sx).Ok c) :
    ∀ j, j ≤ c.ins.length → Turns c r0 j (iterS c j ⟨0, r0, false⟩)
  | 0, _ => ⟨rfl, rfl, fun _ => rfl, h0⟩
  | j + 1, hj => by
    have T := turns hm hN hl hf h0 j (by omega)
    have hi : c.ins[j]? = some c.ins[j] := List.getElem?_eq_getElem (by omega)
    have tk : c.ins.take (j + 1) = c.ins.take j ++ [c.ins[j]] := by rw [List.take_succ, hi]; rfl
    rw [iterS_succ]
    cases hb : (iterS c j ⟨0, r0, false⟩).bad with
    | true =>
      rw [if_pos rfl]
      have ne : (execs c.m (ldOf c.mem) (c.ins.take j) r0).2 = false := by have z := T.bad; rw [hb] at z; simpa using z.symm
      have e : execs c.m (ldOf c.mem) (c.ins.take (j + 1)) r0 = execs c.m (ldOf c.mem) (c.ins.take j) r0 := by rw [tk, execs_app, if_neg (by rw [ne]; exact Bool.false_ne_true)]
      exact ⟨by rw [e]; exact T.regs, by rw [e]; exact T.bad, (fun z => by rw [hb] at z; cases z), T.ok⟩
    | false =>
      rw [if_neg Bool.false_ne_true]
      have yes : (execs c.m (ldOf c.mem) (c.ins.take j) r0).2 = true := by have z := T.bad; rw [hb] at z; simpa using z.symm
      have e : execs c.m (ldOf c.mem) (c.ins.take (j + 1)) r0 = execs c.m (ldOf c.mem) [c.ins[j]] (iterS c j ⟨0, r0, false⟩).regs := by rw [tk, execs_app, if_pos yes, T.regs]
      have hpc := T.pc hb
      have ok := stepS_ok hm hl hf T.ok
      have st := stepS_at (c := c) (s := iterS c j ⟨0, r0, false⟩) (i := c.ins[j]) (by rw [hpc]; exact hi)
      rw [execs_cons] at e
      generalize iterS c j ⟨0, r0, false⟩ = z at *
      cases hx : exec c.m (ldOf c.mem) c.ins[j] z.regs with
      | none =>
        rw [hx] at st e
        rw [st] at ok ⊢
        exact ⟨by rw [e]; rfl, by rw [e]; rfl, (fun z => nomatch z), ok⟩
      | some r =>
        rw [hx] at st e
        rw [st] at ok ⊢
        refine ⟨by rw [e]; rfl, by rw [e]; rfl, fun _ => ?_, ok⟩
        show (z.pc + 1) % 2 ^ c.m = j + 1
        rw [hpc]
        exact Nat.mod_eq_of_lt (by omega)
/-- once a division failed nothing changes -/
theorem iterS_bad {c : Mc} {s : Sx} {k : Nat} (h : (iterS c k s).bad = true) : ∀ n, iterS c (k + n) s = iterS c k s
  | 0 => rfl
  | n + 1 => by
    show iterS c (k + n + 1) s = _
    rw [iterS_succ, iterS_bad h n, if_pos h]
/-! ## what is kept but for the dice and the tables -/
def KeepN (d : Addr) (H H' : Hp) : Prop := ∀ b o, b ≠ d → H b = some o → (∀ ps, o ≠ .tbl ps) → H' b = some o
theorem KeepN.of {d : Addr} {H H' : Hp} (S : Same H H') : KeepN d H H' := fun b o _ e _ => S b o e
theorem KeepN.but {d : Addr} {H H' : Hp} (S : But d H H') : KeepN d H H' := fun b o h e _ => S b o h e
theorem KeepN.ext {d : Addr} {H H' : Hp} (S : ExtN H H') : KeepN d H H' := fun b o _ e n => S b o e n
theorem KeepN.trans {d : Addr} {H H1 H2 : Hp} (a : KeepN d H H1) (b : KeepN d H1 H2) : KeepN d H H2 := fun c o h e n => b c o h (a c o h e n) n
theorem extn_tup {H H' : Hp} (S : ExtN H H') {b : Addr} {xs : List V} (e : H b = some (.tup xs)) : H' b = some (.tup xs) := S b _ e fun _ z => HO.noConfusion z
theorem extn_lst {H H' : Hp} (S : ExtN H H') {b : Addr} {xs : List V} (e : H b = some (.lst xs)) : H' b = some (.lst xs) := S b _ e fun _ z => HO.noConfusion z
theorem extn_dK {H H' : Hp} (S : ExtN H H') {b : Addr} {xs : List (Key × V)} (e : H b = some (.dK xs)) : H' b = some (.dK xs) := S b _ e fun _ z => HO.noConfusion z
theorem slt_ext {H H' : Hp} (S : ExtN H H') {a C dx : Addr} {vs : List (Option V)} (h : SlX.Slt H a C dx vs) : SlX.Slt H' a C dx vs := by
  rcases h with ⟨h1, h2⟩ | ⟨h1, h2⟩
  · exact .inl ⟨S _ _ h1 fun _ z => HO.noConfusion z, h2⟩
  · refine .inr ⟨S _ _ h1 fun _ z => ?_, S _ _ h2 fun _ z => ?_⟩ <;> cases z
theorem IsF.ext {H H' : Hp} (S : ExtN H H') {f : Fm} {v : V} (h : IsF H v f) : IsF H' v f := h.keep fun _ _ e => extn_tup S e
theorem tabs_but {T : List (Addr × Str)} {d : Addr} {H H' : Hp} (hd : IsDi H d) (B : But d H H') (t : Tabs T H) : Tabs T H' := fun p hp => by
  obtain ⟨ps, h1, h2, h3⟩ := t p hp
  refine ⟨ps, B _ _ (hd.ne h1 fun _ z => HO.noConfusion z) h1, h2, fun pos cv hc => ?_⟩
  obtain ⟨c, e1, e2⟩ := h3 pos cv hc
  exact ⟨c, e1, B _ _ (hd.ne e2 fun _ z => by unfold CodeO at z; cases z) e2⟩
/-! ## _law_told called with a lambda -/
theorem pe_told {X : Cx} (T : Txt X.w X.K X.mg X.base) (pP : PrO X.prog) {Tb : List (Addr × Str)} {c Pt : Addr} {k : Nat} {params : Arguments} {body : Expr} {scope : Scope} {p lpos pos : Pos} {t : XK → TE} (hg : Gl X "_law_told") (TB : TabB X.base X.mg c Pt) (hcode : X.env.code = .ref c)
    (hmT : (Pt, X.env.qual ++ "<lambda>") ∈ Tb) (hu : ∀ q ∈ Tb, q.1 = Pt → q.2 = X.env.qual ++ "<lambda>") (hr : Room (k + 2) X.A) (L : LamS X.env.scope scope) (hdef : defaultsOf params X.env = ([], []))
    (hbind : ∀ (q : Str) (cl : List (Str × Addr)) (pm cv ctv : Value), bindArgs (PySem.W.kla_fn "<lambda>" q params body scope cl pm cv ctv) ⟨[], []⟩ = pure [])
    (hbody : ∀ (A : Around) (outer : List Env) (s : Shared) (H : Hp) (E : XK) (f c' : Addr), Room k (A.deeper (lamEnv X scope s.heap.objs.size f c')) → PE (lamCx X A outer s H E scope f c') body (t E)) :
    PE X (.Call (.Name "_law_told" p) [.Lambda params body scope lpos] [] pos) (tLam Tb (TT2 X.K) t) := by
  obtain ⟨fd, F⟩ := T.f_law_told
  have b := F.bindsN (ps := ["_law_call"]) fun _ _ _ _ _ _ us hl => match us, hl with | [_], _ => rfl
  have kp := F.kp
  obtain ⟨oc, od, dV, kV, doc, pm, an, cdv, ct, osl, rfl, lk, hcd, _, _⟩ := F.ex
  exact pe_lamcall hg T.m_law_told kp lk hcd b sc_law_told rfl (.inl rfl) (told_gives2 T pP) TB hcode hmT hu hr L hdef hbind hbody
section
variable {P : Program} {w : World} {K : PySem.W.Frag} {mg : Str → Option Value} {base : Heap}
/-! ## Plain.memory -/
theorem sc_Plain_memory : FnScope ["self"] ["self"] (defScope (inClass (top 96) 6)) := ⟨rfl, rfl, rfl, by decide +kernel, rfl, by decide +kernel, by decide +kernel⟩
abbrev sp_getM (K : PySem.W.Frag) : Sp := fun vs H Q _ => ∃ (a dx m : Addr) (ls : List (Option V)) (kvs : List (Key × V)), vs = [.ref a] ∧ SlX.Slt H a (He.ga K "Plain") dx ls ∧ ls[2]? = some (some (.ref m)) ∧ H m = some (.dK kvs) ∧ ∀ p H', Same H H' → H' p = some (.dK kvs) → Q (.ref p) H'
theorem get_memory (T : Txt w K mg base) : FnR P w K mg base C8.CX0 1 (gtOf "memory" K) (sp_getM K) := by
  obtain ⟨fd, F, b⟩ := fnr_of (P := P) (w := w) (mg := mg) (base := base) (k := 0) (sp := sp_getM K) T.g_memory sc_Plain_memory (fun vs H Q E h => by obtain ⟨_, _, _, _, _, rfl, _⟩ := h; rfl) (fun _ _ _ _ _ _ us hl => match us, hl with | [_], _ => rfl)
    fun cdv A outer s H vs Q E hr h => ⟨_, pss_one (ps_ret (pe_callTy call_dD (by rfl) T.n_dict (by decide +kernel) (pa_cons (SlX.pe_sl (pv 0)) pa_nil))), by
      obtain ⟨a, dx, m, ls, kvs, rfl, h1, h2, h3, q⟩ := h
      walk_at "w"
      refine a_slot T.sc_Plain T.s_Plain_own_memory h1 h2 ?_
      walk_at "w"
      refine a_dD h3 (a_new fun p H1 n1 S1 e1 => ?_)
      exact q p H1 S1 e1⟩
  have r := F.raw b .nil
  exact r.imp fun vs H Q E h => by rw [List.append_nil]; exact h
end
end K83
end
section
set_option maxRecDepth 100000
set_option maxHeartbeats 8000000
namespace K83
open PySem PySem.Spec PyProof.Rows L2 LamX
local macro_rules | `(tactic| walk_at "s") => `(tactic| first
  | with_reducible refine a_seq ?_ | ((with_reducible refine a_varX ?_); refine ⟨_, rfl, ?_⟩) | with_reducible refine a_c ?_ | with_reducible refine a_op ?_ | with_reducible refine a_rI0 ?_ | with_reducible refine a_cons ?_ | with_reducible refine a_nil ?_
  | with_reducible refine a_next ?_ | with_reducible refine a_ret ?_ | with_reducible refine a_retN ?_ | with_reducible refine a_drop ?_ | with_reducible refine a_if ?_ | with_reducible refine a_asg ?_ | with_reducible refine a_un ?_
  | with_reducible refine a_rU ?_ | with_reducible refine a_eqI ?_ | with_reducible refine a_neI ?_ | with_reducible refine a_eqS ?_ | with_reducible refine a_neS ?_ | with_reducible refine a_test ?_ | with_reducible refine a_tB ?_ | with_reducible refine a_bl ?_ | with_reducible refine a_int ?_
  | with_reducible refine a_and ?_ | with_reducible refine a_or ?_ | with_reducible refine a_not ?_ | with_reducible refine a_andV ?_ | with_reducible refine a_orV ?_ | with_reducible refine a_notV ?_ | with_reducible refine a_ifE ?_ | with_reducible refine a_chain ?_ | with_reducible refine a_call ?_ | with_reducible refine a_cb ?_ | with_reducible refine a_star ?_
  | ((with_reducible refine a_nameX ?_); refine ⟨_, (by simp only [L2.wipe, L2.start, List.map_cons, List.map_nil, List.length_cons, List.length_nil, List.replicate_succ, List.replicate_zero, Nat.reduceSub, Nat.reduceAdd, Nat.zero_add, List.cons_append, List.nil_append, List.set_cons_zero, List.set_cons_succ]; exact rfl), ?_⟩) | with_reducible refine a_gcons ?_ | with_reducible refine a_gnil ?_ | with_reducible refine a_gsub ?_ | with_reducible refine a_par ?_ | ((with_reducible refine a_parX rfl ?_); refine ⟨_, (by simp only [L2.wipe, L2.start, List.map_cons, List.map_nil, List.length_cons, List.length_nil, List.replicate_succ, List.replicate_zero, Nat.reduceSub, Nat.reduceAdd, Nat.zero_add, List.cons_append, List.nil_append, List.set_cons_zero, List.set_cons_succ]; exact rfl), ?_⟩) | ((with_reducible refine a_augX ?_); refine ⟨_, rfl, ?_⟩) | with_reducible refine a_ipI ?_ | with_reducible refine a_tup ?_ | with_reducible refine a_lst ?_ | with_reducible refine a_sl ?_ | with_reducible refine a_sslX ?_
  | with_reducible refine a_tsl ?_ | with_reducible refine a_noPart ?_ | with_reducible refine a_part ?_ | with_reducible refine a_i1 ?_ | with_reducible refine a_i1b ?_ | with_reducible refine a_mx ?_ | with_reducible refine a_mn ?_ | with_reducible refine a_ab ?_ | with_reducible refine a_mat ?_ | with_reducible refine a_case ?_
  | ((with_reducible refine a_oneS ?_ ?_); omega) | ((with_reducible refine a_mask 1 ?_ ?_); decide) | ((with_reducible refine a_mask 3 ?_ ?_); decide) | ((with_reducible refine a_mask 6 ?_ ?_); decide) | ((with_reducible refine a_mask 9 ?_ ?_); decide) | ((with_reducible refine a_rI ?_ ?_); first | exact ⟨by decide, by decide⟩ | decide)
  | ((with_reducible refine a_shlK 12 ?_ ?_ ?_); rfl; exact shl_small (by omega) (by omega) (by decide)) | ((with_reducible refine a_shlK 9 ?_ ?_ ?_); rfl; exact shl_small (by omega) (by omega) (by decide)) | ((with_reducible refine a_shlK 6 ?_ ?_ ?_); rfl; exact shl_small (by omega) (by omega) (by decide)) | with_reducible refine a_kdGet ?_
  | with_reducible refine a_bm0 ?_ | with_reducible refine a_bm ?_ | with_reducible refine a_dnewT ?_ | with_reducible refine a_gsl ?_ | with_reducible refine a_mk ?_
  | with_reducible refine a_dget2 ?_ | with_reducible refine a_dnewK ?_ | with_reducible refine a_tli ?_ | with_reducible refine a_pair ?_ | with_reducible refine a_pair0 ?_
  | with_reducible refine a_lc ?_ | with_reducible refine a_itup ?_ | with_reducible refine a_ilst ?_ | with_reducible refine a_yes ?_ | with_reducible refine a_iitems ?_ | with_reducible refine a_dc ?_ | with_reducible refine a_isN0 ?_ | with_reducible refine a_notN0 ?_ | with_reducible refine a_izip ?_ | with_reducible refine a_dget ?_ | with_reducible refine a_propSl ?_ | with_reducible refine a_methSl ?_ | with_reducible refine a_for ?_ | with_reducible refine a_rng1 ?_ | with_reducible refine a_rng2 ?_
  | with_reducible refine iteT ?_ | with_reducible refine iteF ?_)
local macro_rules | `(tactic| walk_at "t") => `(tactic| refine ⟨Nat.le_of_ble_eq_true rfl, a_new ?_⟩)
local macro_rules | `(tactic| walk_at "w") => `(tactic| repeat walk_at "s")
local macro_rules | `(tactic| walk_at "t0") => `(tactic| refine ⟨Nat.le_of_ble_eq_true rfl, ?_⟩)
local macro_rules | `(tactic| walk_at "s") => `(tactic| first | with_reducible refine a_par3 ?_ | ((with_reducible refine a_par3X rfl ?_); refine ⟨_, (by simp only [L2.wipe, L2.start, List.map_cons, List.map_nil, List.length_cons, List.length_nil, List.replicate_succ, List.replicate_zero, Nat.reduceSub, Nat.reduceAdd, Nat.zero_add, List.cons_append, List.nil_append, List.set_cons_zero, List.set_cons_succ]; exact rfl), ?_⟩))
/-! ## equal data -/
section
variable {K : PySem.W.Frag} {H : Hp} {Q : VK} {x y : V} {d : PyData}
theorem a_eqSame (hx : Dp K H x d) (hy : Dp K H y d) (hs : SeqAt.shaped d = true) (q : Q (.bl true) H) : rEqD K x y H Q := ⟨d, d, hx, hy, hs, hs, by rw [SeqAt.eqv_refl d (SeqAt.canLay_of_shaped hs)]; exact q⟩
theorem a_neSame (hx : Dp K H x d) (hy : Dp K H y d) (hs : SeqAt.shaped d = true) (q : Q (.bl false) H) : rNeD K x y H Q := ⟨d, d, hx, hy, hs, hs, by rw [SeqAt.eqv_refl d (SeqAt.canLay_of_shaped hs)]; exact q⟩
theorem dp_ints : ∀ r : List Int, DpAll K H (intV r) (r.map PyData.int)
  | [] => .nil
  | i :: r => .cons (.int i) (dp_ints r)
end
theorem lay_ints : ∀ r : List Int, PyData.canLayAll0 (r.map PyData.int) = true ∧ PyData.depthAll (r.map PyData.int) = 0
  | [] => ⟨rfl, rfl⟩
  | i :: r => by
    obtain ⟨h1, h2⟩ := lay_ints r
    constructor
    · show PyData.canLayAll0 (.int i :: r.map PyData.int) = true
      simp only [PyData.canLayAll0, PyData.canLay0, h1, Bool.and_true]
    · show PyData.depthAll (.int i :: r.map PyData.int) = 0
      simp only [PyData.depthAll, PyData.depth, h2]; rfl
theorem shaped_ints (r : List Int) : SeqAt.shaped (.list (r.map PyData.int)) = true ∧ SeqAt.shaped (.tuple (r.map PyData.int)) = true := by
  obtain ⟨h1, h2⟩ := lay_ints r
  constructor
  · unfold SeqAt.shaped
    simp only [PyData.canLay0, PyData.depth, h1, h2, Bool.true_and]
    rfl
  · unfold SeqAt.shaped
    simp only [PyData.canLay0, PyData.depth, h1, h2, Bool.true_and]
    rfl
theorem shaped_reg (n : Int) : SeqAt.shaped (.tuple [.str "refused", .tuple [.str "registers", .int n]]) = true := by
  refine Bool.and_eq_true_iff.mpr ⟨?_, decide_eq_true ?_⟩
  · simp only [PyData.canLay0, PyData.canLayAll0, Bool.and_true]
    decide +kernel
  · simp only [PyData.depth, PyData.depthAll]
    omega
theorem shaped_many (n : Int) : SeqAt.shaped (.tuple [.str "refused", .str "many", .int n]) = true := by
  refine Bool.and_eq_true_iff.mpr ⟨?_, decide_eq_true ?_⟩
  · simp only [PyData.canLay0, PyData.canLayAll0, Bool.and_true]
    decide +kernel
  · simp only [PyData.depth, PyData.depthAll]
    omega
theorem room80 {k : Nat} {A : Around} (hr : Room k A) : A.units + 80 < cLine := by have := hr.un; omega
theorem shaped_div : SeqAt.shaped (.tuple [.str "fault", .str "divide"]) = true := by decide +kernel
theorem a_cat {H : Hp} {Q : VK} {l b : Addr} {xs zs : List V} (e1 : H l = some (.lst xs)) (e2 : H b = some (.lst zs)) (hz : xs.length + zs.length ≤ sizeLine) (h : newO (.lst (xs ++ zs)) Q H) : rCat (.ref l) (.ref b) H Q := ⟨l, b, xs, zs, rfl, rfl, e1, e2, hz, h⟩
theorem a_makeK {C : Addr} {n m : Nat} {sp : Sp} {gV : List V → List V → List V} {E : XK} {t tk : TA} {σ : L2.St} {H : Hp} {Q : VK} (h : t σ H fun vs H1 => tk σ H1 fun zs H2 => vs.length = n ∧ zs.length = m ∧ ∀ x dx, H2 x = none → H2 dx = none → dx ≠ x →
    sp (gV (.ref x :: vs) zs) (upd (upd H2 dx (.own x)) x (.ins C dx [])) (fun v H3 => v = .non ∧ Q (.ref x) H3) E) : tMakeK C n m sp gV E t tk σ H Q := h
theorem stK_memK {a b c d e f g : V} {mem : List (Int × Int)} (h : stK a b c d e f g = memK mem) : False := by
  cases mem with
  | nil => cases h
  | cons p l =>
    have z : (Sum.inr "pc" : Key) = Sum.inl p.1 := congrArg Prod.fst (List.cons.inj h).1
    cases z
theorem words_ints (l : List Ins) : wordsV l = intV (l.map enc) := by unfold wordsV intV; rw [List.map_map]; rfl
/-- a list comprehension over a range whose items roll the dice -/
theorem lc_roll {lo : Int} {n : Nat} {g : TG} {tt : TT} {te : TE} {vs : List Nat} {σ : L2.St} {H : Hp} {Q : VK} {d : Addr} (hd : IsDi H d) (hn : n ≤ 1000) (Pr : V → Prop)
    (hs : ∀ i H' (R : VK) (N : Hp → Prop), i < n → But d H H' → IsDi H' d → (∀ y H4, But d H' H4 → IsDi H4 d → Pr y → R y H4) → g (.int (lo + (i : Nat))) (wipe σ vs) H' fun σ2 H2 => wipe σ2 vs = wipe σ vs ∧ tt σ2 H2 fun b H3 => if b = true then te σ2 H3 R else N H3)
    (hQ : ∀ D H' ys, But d H H' → IsDi H' d → H D = none → H' D = some (.lst ys) → ys.length = n → (∀ y ∈ ys, Pr y) → Q (.ref D) H') : lcGo (Itr lo n) g tt te vs σ Q H := by
  intro D hD
  have nD : D ≠ d := hd.ne0 hD
  refine ⟨fun i m H' => m = n - i ∧ i ≤ n ∧ But d H H' ∧ IsDi H' d ∧ ∃ ys, H' D = some (.lst ys) ∧ ys.length = i ∧ ∀ y ∈ ys, Pr y, ⟨n, by omega, Nat.zero_le _, (But.refl d H).upd_new hD, ?_, [], upd_same, rfl, fun _ h => nomatch h⟩, ?_⟩
  · obtain ⟨x, y, z, e⟩ := hd
    exact ⟨x, y, z, by rw [upd_ne nD.symm]; exact e⟩
  rintro i m H' ⟨rfl, hi, B, hd', ys, hL, hl, hp⟩
  by_cases e : i = n
  · subst e
    exact .inl ⟨Nat.le_refl _, hQ D H' ys B hd' hD hL hl hp⟩
  · have lt : i < n := by omega
    refine .inr ⟨lt, fun H2 => But d H H2 ∧ IsDi H2 d ∧ ∃ ys, H2 D = some (.lst ys) ∧ ys.length = i + 1 ∧ ∀ y ∈ ys, Pr y, fun H2 h => ⟨n - (i + 1), by omega, rfl, lt, h.1, h.2.1, h.2.2⟩, fun x H2 hy => ?_⟩
    obtain ⟨rfl, rfl⟩ := hy
    refine hs i _ _ _ lt B hd' fun y H4 B4 hd4 py => ?_
    have e4 := B4 _ _ nD hL
    obtain ⟨x1, x2, x3, ex⟩ := hd4
    refine ⟨ys, e4, small1000 (by omega), (B.trans B4).upd_new hD, ⟨x1, x2, x3, by rw [upd_ne nD.symm]; exact ex⟩, ys ++ [y], upd_same, by rw [List.length_append, hl]; rfl, fun z hz => ?_⟩
    rcases List.mem_append.mp hz with hz | hz
    · exact hp z hz
    · rw [List.mem_singleton.mp hz]; exact py
theorem all_ints {ys : List V} {b : Int} (h : ∀ y ∈ ys, ∃ i : Int, y = .int i ∧ 0 ≤ i ∧ i < b) : ∃ r : List Int, ys = intV r ∧ ∀ i ∈ r, 0 ≤ i ∧ i < b := by
  induction ys with
  | nil => exact ⟨[], rfl, fun _ h => nomatch h⟩
  | cons y ys ih =>
    obtain ⟨r, e, hr⟩ := ih fun z hz => h z (List.mem_cons_of_mem _ hz)
    obtain ⟨i, rfl, hi⟩ := h y (List.mem_cons_self ..)
    exact ⟨i :: r, by rw [e]; rfl, fun j hj => by
      rcases List.mem_cons.mp hj with rfl | hj
      · exact hi
      · exact hr j hj⟩
/-- drawn widths, drawn numbers of registers -/
theorem drawnM {y : V} (h : y ∈ [V.int 4, V.int 5, V.int 8, V.int 8, V.int 12, V.int 16]) : ∃ m : Nat, y = .int (m : Int) ∧ (4 ≤ m ∧ m ≤ 16) := by
  simp only [List.mem_cons, List.not_mem_nil, or_false] at h
  rcases h with h | h | h | h | h | h
  · exact ⟨4, h, by decide⟩
  · exact ⟨5, h, by decide⟩
  · exact ⟨8, h, by decide⟩
  · exact ⟨8, h, by decide⟩
  · exact ⟨12, h, by decide⟩
  · exact ⟨16, h, by decide⟩
theorem drawnR {y : V} (h : y ∈ [V.int 2, V.int 4, V.int 4, V.int 8, V.int 8, V.int 8]) : ∃ m : Nat, y = .int (m : Int) ∧ (m = 2 ∨ m = 4 ∨ m = 8) := by
  simp only [List.mem_cons, List.not_mem_nil, or_false] at h
  rcases h with h | h | h | h | h | h
  · exact ⟨2, h, .inl rfl⟩
  · exact ⟨4, h, .inr (.inl rfl)⟩
  · exact ⟨4, h, .inr (.inl rfl)⟩
  · exact ⟨8, h, .inr (.inr rfl)⟩
  · exact ⟨8, h, .inr (.inr rfl)⟩
  · exact ⟨8, h, .inr (.inr rfl)⟩
/-- what the call told: too high, too many, or the steps -/
def ToldR (H : Hp) (td : Addr) (m R : Nat) (f : Fm) : Prop :=
  (¬ f.ht ≤ R - 1 ∧ ∃ p, H td = some (.tup [.str "refused", .ref p]) ∧ H p = some (.tup [.str "registers", .int (f.ht : Int)])) ∨
  (f.ht ≤ R - 1 ∧ 2 ^ m ≤ f.cnt ∧ H td = some (.tup [.str "refused", .str "many", .int (2 ^ m - 1)])) ∨
  (f.ht ≤ R - 1 ∧ f.cnt < 2 ^ m ∧ ∃ p, H td = some (.tup [.str "told", .ref p]) ∧ H p = some (.tup (wordsV (comp f (List.range' 1 f.ht)))))
theorem ToldR.same {H H' : Hp} {td : Addr} {m R : Nat} {f : Fm} (S : Same H H') (h : ToldR H td m R f) : ToldR H' td m R f := by
  rcases h with ⟨a, p, e1, e2⟩ | ⟨a, b, e1⟩ | ⟨a, b, p, e1, e2⟩
  · exact .inl ⟨a, p, S _ _ e1, S _ _ e2⟩
  · exact .inr (.inl ⟨a, b, S _ _ e1⟩)
  · exact .inr (.inr ⟨a, b, p, S _ _ e1, S _ _ e2⟩)
section
variable {P : Program} {w : World} {K : PySem.W.Frag} {mg : Str → Option Value} {base : Heap}
theorem sc_law_right : FnScope ["_law_dice_here", "_law_shape", "_law_formula", "_law_store", "_law_value_here", "_law_height", "_law_many", "_law_own", "_law_told_here", "_law_state", "_law_held", "_law_first", "_law_steps", "_law_turn", "_law_last", "_law_word", "_law_at"] ["_law_dice_here"] (defScope (top 118)) := ⟨rfl, rfl, rfl, by decide +kernel, rfl, by decide +kernel, by decide +kernel⟩
abbrev lamQ (x : Str) : Str := (x ++ ".<locals>.") ++ "<lambda>"
abbrev sp_law_right (Tb : List (Addr × Str)) : Sp := fun vs H Q _ => ∃ d, vs = [.ref d] ∧ IsDi H d ∧ Tabs Tb H ∧ ∀ H', KeepN d H H' → IsDi H' d → Tabs Tb H' → Q (.bl true) H'
theorem fn_law_right (T : Txt w K mg base) (pP : PrO P) {Tb : List (Addr × Str)} {Pt : Addr} (TB : TabB base mg (He.codeOf K ("_law_right", none)) Pt) (hmT : (Pt, lamQ "_law_right") ∈ Tb) (hu : ∀ q ∈ Tb, q.1 = Pt → q.2 = lamQ "_law_right") :
    ∃ fd, FnOk P w K mg base C8.CX0 140 (He.ga K "_law_right") fd ["_law_dice_here"] (sp_law_right Tb) ∧ L2.Binds K fd ["_law_dice_here"] [] ∧ PySem.W.keepIn K (.ref (He.ga K "_law_right")) = true := by
  obtain ⟨fd, F⟩ := T.f_law_right
  have b := F.bindsN (ps := ["_law_dice_here"]) fun _ _ _ _ _ _ us hl => match us, hl with | [_], _ => rfl
  have kp := F.kp
  obtain ⟨oc, od, dV, kV, doc, pm, an, cdv, ct, osl, rfl, lk, hcd, _, _⟩ := F.ex
  obtain ⟨cc, rfl⟩ := He.codeIn_ref hcd
  have ec : He.codeOf K ("_law_right", none) = cc := He.codeOf_eq lk rfl
  rw [ec] at TB
  obtain ⟨fdF, Ffs, bfs, kfs⟩ := fn_formula_steps (P := P) T pP
  obtain ⟨fdP, FPl, DPl⟩ := fn_Plain_init (P := P) T
  obtain ⟨mv, kPl⟩ := pl_key2 DPl
  obtain ⟨fdR, FRn, dsR, dR, bR⟩ := fn_run (P := P) T
  have Frun := FRn.raw bR dR
  refine ⟨_, fn_of lk hcd sc_law_right (fun vs H Q E h => by obtain ⟨_, rfl, _⟩ := h; rfl) fun A outer s H vs Q E hr h => ?_, b, kp⟩
  obtain ⟨d, rfl, hd, hT, q⟩ := h
  have hcode : (cxOf C8.CX0 P w K mg base ["_law_dice_here", "_law_shape", "_law_formula", "_law_store", "_law_value_here", "_law_height", "_law_many", "_law_own", "_law_told_here", "_law_state", "_law_held", "_law_first", "_law_steps", "_law_turn", "_law_last", "_law_word", "_law_at"] "_law_right" (defScope (top 118)) (He.ga K "_law_right") (.ref cc) A outer s H E).nox.env.code = .ref cc := rfl
  suffices hh : ∃ t, PSs (cxOf C8.CX0 P w K mg base ["_law_dice_here", "_law_shape", "_law_formula", "_law_store", "_law_value_here", "_law_height", "_law_many", "_law_own", "_law_told_here", "_law_state", "_law_held", "_law_first", "_law_steps", "_law_turn", "_law_last", "_law_word", "_law_at"] "_law_right" (defScope (top 118)) (He.ga K "_law_right") (.ref cc) A outer s H E).nox (defBody (top 118)) t ∧
      t ⟨fun _ H' => Q .non H', Q, fun _ _ => False, fun _ _ => False⟩ (start ["_law_dice_here", "_law_shape", "_law_formula", "_law_store", "_law_value_here", "_law_height", "_law_many", "_law_own", "_law_told_here", "_law_state", "_law_held", "_law_first", "_law_steps", "_law_turn", "_law_last", "_law_word", "_law_at"] [V.ref d]) H by
    obtain ⟨t, a, b⟩ := hh
    exact ⟨t, a.nox, b⟩
  refine ⟨_, pss_cons (ps_set (i := 1) sc_law_right.nd rfl (Or.inl rfl) (pe_tup (pa_cons (C8.pe_c (ok_law_one_of T) hr (by omega) rfl (pa_cons (pv 0) (pa_cons (pe_lst (pa_cons (pe_int) (pa_cons (pe_int) (pa_cons (pe_int) (pa_cons (pe_int) (pa_cons (pe_int) (pa_cons (pe_int) pa_nil))))))) pa_nil))) (pa_cons (C8.pe_c (ok_law_one_of T) hr (by omega) rfl (pa_cons (pv 0) (pa_cons (pe_lst (pa_cons (pe_int) (pa_cons (pe_int) (pa_cons (pe_int) (pa_cons (pe_int) (pa_cons (pe_int) (pa_cons (pe_int) pa_nil))))))) pa_nil))) pa_nil))))
  (pss_cons (ps_asg (pe_tup (pa_cons (C8.pe_c ((ok_law_formula_drawn T 40)) hr (by omega) rfl (pa_cons (pv 0) (pa_cons (pe_op op_add (pe_int) (C8.pe_c (ok_law_roll T) hr (by omega) rfl (pa_cons (pv 0) (pa_cons (pe_int) pa_nil)))) pa_nil))) (pa_cons (C8.pe_c (ok_law_memory_drawn T) hr (by omega) rfl (pa_cons (pv 0) (pa_cons (pv 1) pa_nil))) pa_nil))) (pg_tup rfl (pgs_cons (pg_name (i := 2) sc_law_right.nd rfl (Or.inr rfl)) (pgs_cons (pg_name (i := 3) sc_law_right.nd rfl (Or.inl rfl)) pgs_nil))))
  (pss_cons (ps_asg (C8.pe_c ((ok_law_value T 40)) hr (by omega) rfl (pa_cons (pv 1) (pa_cons (pv 3) (pa_cons (pv 2) pa_nil)))) (pg_tup rfl (pgs_cons (pg_name (i := 4) sc_law_right.nd rfl (Or.inl rfl)) (pgs_cons (pg_name (i := 5) sc_law_right.nd rfl (Or.inr rfl)) (pgs_cons (pg_name (i := 6) sc_law_right.nd rfl (Or.inl rfl)) pgs_nil)))))
  (pss_cons (ps_set (i := 7) sc_law_right.nd rfl (Or.inr rfl) (C8.pe_mk (mk_Shape T) hr (by omega) rfl (pa_cons (pe_ix ix_tup (pv 1) (pe_int) (fun _ _ => rfl)) (pa_cons (pe_ix ix_tup (pv 1) (pe_int) (fun _ _ => rfl)) pa_nil))))
  (C8.pss_cut (ps_set (i := 8) sc_law_right.nd rfl (Or.inl rfl) (pe_told (k := 131) T pP rfl TB hcode hmT hu (hr.mono (by decide)) (lamS_by (sc := defScope (top 118)) (by decide +kernel)) rfl (fun _ _ _ _ _ => rfl) (fun A outer s H E f c1 hr2 => pe_call Ffs (hr2.mono (by decide)) rfl T.m_formula_steps kfs bfs .nil (passes_call (takes_of rfl rfl rfl rfl) fun _ _ _ _ h => h) (pa_cons (pv 7) (pa_cons (pv 2) pa_nil)))))
  (pss_cons (ps_if (pt_cmpR op_ne (C8.pe_c (ok_formula_height T) hr (by omega) rfl (pa_cons (pv 2) pa_nil)) (pv 5) (nomark _))
    (pss_one (ps_ret (pe_bl)))
    (pss_nil))
  (pss_cons (ps_if (pt_cmpR op_gt (pv 5) (pe_op op_sub (pe_ix ix_tup (pv 1) (pe_int) (fun _ _ => rfl)) (pe_int)) (nomark _))
    (pss_one (ps_ret (pe_cmpR (op_eqD hr.units) (pv 8) (pe_tup (pa_cons (pe_str) (pa_cons (pe_tup (pa_cons (pe_str) (pa_cons (pv 5) pa_nil))) pa_nil))) (nomark _))))
    (pss_nil))
  (pss_cons (ps_if (pt_cmpR op_ge (pv 6) (C8.pe_c (ok_law_two_to T) hr (by omega) rfl (pa_cons (pe_ix ix_tup (pv 1) (pe_int) (fun _ _ => rfl)) pa_nil)) (nomark _))
    (pss_one (ps_ret (pe_cmpR (op_eqD hr.units) (pv 8) (pe_tup (pa_cons (pe_str) (pa_cons (pe_str) (pa_cons (pe_op op_sub (C8.pe_c (ok_law_two_to T) hr (by omega) rfl (pa_cons (pe_ix ix_tup (pv 1) (pe_int) (fun _ _ => rfl)) pa_nil)) (pe_int)) pa_nil)))) (nomark _))))
    (pss_nil))
  (pss_cons (ps_if (PW.pt (pw_or (pt_cmpR op_ne (pe_ix ix_tup (pv 8) (pe_int) (fun _ _ => rfl)) (pe_str) (nomark _)) (pw_or (pt_not (pt_val (pe_callB call_isi (by rfl) T.n_isinstance (by decide +kernel) (pa_cons (pe_ix ix_tup (pv 8) (pe_int) (fun _ _ => rfl)) (pa_cons (pe_bltn (v := .ty "tuple") (by rfl) T.n_tuple (by decide +kernel) rfl) pa_nil))))) (pw_or1 (pt_cmpR op_ne (pe_callB call_lenS (by rfl) T.n_len (by decide +kernel) (pa_cons (pe_ix ix_tup (pv 8) (pe_int) (fun _ _ => rfl)) pa_nil)) (pv 6) (nomark _))))))
    (pss_one (ps_ret (pe_bl)))
    (pss_nil))
  (pss_cons (ps_if (pt_cmpR (op_neD hr.units) (pe_lc rfl sc_law_right.nd (pi_tup (pe_ix ix_tup (pv 8) (pe_int) (fun _ _ => rfl))) (blkOk_by (N := ["_law_dice_here", "_law_shape", "_law_formula", "_law_store", "_law_value_here", "_law_height", "_law_many", "_law_own", "_law_told_here", "_law_state", "_law_held", "_law_first", "_law_steps", "_law_turn", "_law_last", "_law_word", "_law_at"]) (sc := defScope (top 118)) (own := [("_law_word", 15)]) (by decide +kernel)) (fun _ _ _ _ _ => pg_name (i := 15) sc_law_right.nd rfl (Or.inl rfl)) (fun _ _ _ _ _ => pts_one (pt_cmpR op_gt (C8.pe_c (ok_given_by T) hr (by omega) rfl (pa_cons (pv 7) (pa_cons (pv 15) pa_nil))) (pv 5) (nomark _))) (fun _ _ _ _ _ => pv 15)) (pe_lst (pa_nil)) (nomark _))
    (pss_one (ps_ret (pe_bl)))
    (pss_nil))
  (pss_cons (ps_par (i := 9) (j := 10) rfl sc_law_right.nd rfl rfl (by decide) rfl rfl (pa_cons (C8.pe_c (ok_law_plain_first T) hr (by omega) rfl (pa_cons (pv 1) (pa_cons (pv 3) pa_nil))) (pa_cons (pe_op op_cat (pe_lst (pa_cons (pe_int) pa_nil)) (pe_lc rfl sc_law_right.nd (pi_range2 (by rfl) T.n_range (pa_cons (pe_int) (pa_cons (pe_ix ix_tup (pv 1) (pe_int) (fun _ _ => rfl)) pa_nil))) (blkOk_by (N := ["_law_dice_here", "_law_shape", "_law_formula", "_law_store", "_law_value_here", "_law_height", "_law_many", "_law_own", "_law_told_here", "_law_state", "_law_held", "_law_first", "_law_steps", "_law_turn", "_law_last", "_law_word", "_law_at"]) (sc := defScope (top 118)) (own := [("_law_at", 16)]) (by decide +kernel)) (fun _ _ _ _ _ => pg_name (i := 16) sc_law_right.nd rfl (Or.inl rfl)) (fun _ _ _ _ _ => pts_nil) (fun _ _ _ _ _ => C8.pe_c (ok_law_roll T) hr (by omega) rfl (pa_cons (pv 0) (pa_cons (pe_int) pa_nil))))) pa_nil)) rfl)
  (pss_cons (ps_asg (pv 10) (pg_sub (pv 9) (pe_str) (set_dict (hu_of hr))))
  (C8.pss_cut (ps_par (i := 11) (j := 12) rfl sc_law_right.nd rfl rfl (by decide) rfl rfl (pa_cons (pe_makeK (E := C8.E0) T.mk_Plain FPl (hr.mono (by decide)) rfl T.m_Plain kPl pass0 (pa_cons (pv 7) (pa_cons (pe_ix ix_tup (pv 8) (pe_int) (fun _ _ => rfl)) pa_nil)) (pk_cons (pe_callTy call_tupOf (by rfl) T.n_tuple (by decide +kernel) (pa_cons (pv 10) pa_nil)) (pk_cons (pv 3) pk_nil))) (pa_cons (pe_int) pa_nil)) rfl)
  (pss_cons (ps_for PassesOwn.never rfl (pi_range1 (by rfl) T.n_range (pa_cons (pv 6) pa_nil)) (pg_name (i := 13) sc_law_right.nd rfl (Or.inl rfl))
    (pss_one (ps_if (PW.pt (pw_and (pt_cmpR op_isN0 (pe_dget (hu_of hr) (pv 9) (pe_str) (fun _ _ => rfl)) (pe_non) (nomark _)) (pw_and1 (pt_cmpR op_lt (pe_dget (hu_of hr) (pv 9) (pe_str) (fun _ _ => rfl)) (pv 6) (nomark _)))))
        (pss_one (ps_par (i := 9) (j := 12) rfl sc_law_right.nd rfl rfl (by decide) rfl rfl (pa_cons (C8.pe_c (ok_law_plain_step T) hr (by omega) rfl (pa_cons (pv 1) (pa_cons (pe_ix ix_tup (pv 8) (pe_int) (fun _ _ => rfl)) (pa_cons (pv 9) pa_nil)))) (pa_cons (pe_op op_add (pv 12) (pe_int)) pa_nil)) rfl))
        (pss_nil))))
  (pss_cons (ps_set (i := 14) sc_law_right.nd rfl (Or.inl rfl) (SlX.pe_methSl (E := C8.E0) (pv 11) T.sc_Plain T.me_run Frun (hr.mono (by decide)) pass0 (pa_cons (pv 12) pa_nil)))
  (pss_cons (ps_if (PW.pt (pw_or (pt_cmpR (op_neD hr.units) (pe_callTy call_lstOf (by rfl) T.n_list (by decide +kernel) (pa_cons (SlX.pe_propSl (E := C8.E0) (pv 14) T.sc_Plain T.p_registers.at_ T.p_registers.get T.p_registers.tk T.p_registers.rc (get_registers T) (hr.mono (by decide)) (fun _ _ _ _ h => h.elim)) pa_nil)) (pe_dget (hu_of hr) (pv 9) (pe_str) (fun _ _ => rfl)) (nomark _)) (pw_or1 (pt_cmpR (op_neD hr.units) (pe_slice sl_tupA (SlX.pe_propSl (E := C8.E0) (pv 14) T.sc_Plain T.p_registers.at_ T.p_registers.get T.p_registers.tk T.p_registers.rc (get_registers T) (hr.mono (by decide)) (fun _ _ _ _ h => h.elim)) (po_some (pe_op op_add (pv 5) (pe_int))) po_none) (pe_callTy call_tupOf (by rfl) T.n_tuple (by decide +kernel) (pa_cons (pe_slice sl_list (pv 10) (po_some (pe_op op_add (pv 5) (pe_int))) po_none) pa_nil)) (nomark _)))))
    (pss_one (ps_ret (pe_bl)))
    (pss_nil))
  (pss_cons (ps_if (pt_cmpR op_isN0 (pv 4) (pe_non) (nomark _))
    (pss_one (ps_ret (pe_chain (op_eqD hr.units) (op_eqD hr.units) (SlX.pe_propSl (E := C8.E0) (pv 14) T.sc_Plain T.p_ended.at_ T.p_ended.get T.p_ended.tk T.p_ended.rc (get_ended T) (hr.mono (by decide)) (fun _ _ _ _ h => h.elim)) (pe_tup (pa_cons (pe_str) (pa_cons (pe_str) pa_nil))) (pe_dget (hu_of hr) (pv 9) (pe_str) (fun _ _ => rfl)))))
    (pss_nil))
  (pss_cons (ps_if (pt_cmpR (op_neI (room80 hr)) (pe_tup (pa_cons (SlX.pe_propSl (E := C8.E0) (pv 14) T.sc_Plain T.p_ended.at_ T.p_ended.get T.p_ended.tk T.p_ended.rc (get_ended T) (hr.mono (by decide)) (fun _ _ _ _ h => h.elim)) (pa_cons (SlX.pe_propSl (E := C8.E0) (pv 14) T.sc_Plain T.p_outputs.at_ T.p_outputs.get T.p_outputs.tk T.p_outputs.rc (get_outputs T) (hr.mono (by decide)) (fun _ _ _ _ h => h.elim)) (pa_cons (SlX.pe_propSl (E := C8.E0) (pv 14) T.sc_Plain T.p_allowed.at_ T.p_allowed.get T.p_allowed.tk T.p_allowed.rc (get_allowed T) (hr.mono (by decide)) (fun _ _ _ _ h => h.elim)) (pa_cons (SlX.pe_propSl (E := C8.E0) (pv 14) T.sc_Plain T.p_memory.at_ T.p_memory.get T.p_memory.tk T.p_memory.rc (get_memory T) (hr.mono (by decide)) (fun _ _ _ _ h => h.elim)) pa_nil))))) (pe_tup (pa_cons (pe_non) (pa_cons (pe_tup pa_nil) (pa_cons (pe_bl) (pa_cons (pv 3) pa_nil))))) (nomark _))
    (pss_one (ps_ret (pe_bl)))
    (pss_nil))
  (pss_one (ps_ret (pe_and (pe_cmpR op_isN0 (pe_dget (hu_of hr) (pv 9) (pe_str) (fun _ _ => rfl)) (pe_non) (nomark _)) (pe_one (pe_cmpR op_eq (pe_ix ix_tup (SlX.pe_propSl (E := C8.E0) (pv 14) T.sc_Plain T.p_registers.at_ T.p_registers.get T.p_registers.tk T.p_registers.rc (get_registers T) (hr.mono (by decide)) (fun _ _ _ _ h => h.elim)) (pe_int) (fun _ _ => rfl)) (pv 4) (nomark _))))))))))))))))))))))), ?_⟩
  walk_at "w"
  refine ⟨Nat.le_of_ble_eq_true rfl, a_new fun p1 H1 n1 S1 e1 => ?_⟩
  have hd1 := hd.same S1
  walk_at "w"
  refine ⟨d, p1, _, rfl, hd1, e1, hd.ne0 n1, ⟨show 0 < 6 by decide, show 6 < 1000 by decide⟩, fun y H2 B2 hd2 hy => ?_⟩
  obtain ⟨m, rfl, hm⟩ := drawnM hy
  walk_at "w"
  refine ⟨Nat.le_of_ble_eq_true rfl, a_new fun p3 H3 n3 S3 e3 => ?_⟩
  have hd3 := hd2.same S3
  walk_at "w"
  refine ⟨d, p3, _, rfl, hd3, e3, hd2.ne0 n3, ⟨show 0 < 6 by decide, show 6 < 1000 by decide⟩, fun y H4 B4 hd4 hy => ?_⟩
  obtain ⟨R, rfl, hR⟩ := drawnR hy
  have hR8 : 2 ≤ R ∧ R ≤ 8 := by rcases hR with h | h | h <;> omega
  walk_at "w"
  walk_at "t"
  intro sh H5 n5 S5 e5
  have hd5 := hd4.same S5
  have B5 : But d H H5 := ((((But.of S1).trans B2).same S3).trans B4).same S5
  walk_at "w"
  refine ⟨d, 40, rfl, hd5, by decide, by decide, fun r H6 B6 hd6 r0 r1 => ?_⟩
  obtain ⟨k, rfl⟩ := nn_eq r0
  walk_at "w"
  rw [show (1 + (k : Int)) = ((1 + k : Nat) : Int) by omega]
  refine ⟨d, 1 + k, rfl, hd6, ⟨by omega, by omega, by decide⟩, fun v f H7 B7 hd7 i7 o7 c7 => ?_⟩
  have e7 := hd6.tup B7 (hd5.tup B6 e5)
  walk_at "w"
  refine ⟨d, .ref sh, m, R, rfl, hd7, ⟨sh, rfl, e7⟩, hm, fun a mem H8 B8 hd8 hmem e8 => ?_⟩
  walk_at "w"
  walk_at "t"
  intro p9 H9 n9 S9 e9
  have hd9 := hd8.same S9
  have B9 : But d H H9 := (((B5.trans B6).trans B7).trans B8).same S9
  have sh9 := S9 _ _ (hd7.tup B8 e7)
  have i9 := (i7.but hd7 B8).same S9
  have a9 := S9 _ _ e8
  walk_at "w"
  refine a_gtup (SqT.of e9) rfl ?_
  walk_at "w"
  have lw := ld_wd (m := m) (mem := mem) fun p hp => ⟨(hmem.2.2 p hp).1, (hmem.2.2 p hp).2.1⟩
  refine ⟨.ref sh, v, a, m, R, mem, f, rfl, ⟨sh, rfl, sh9⟩, hm, a9, lw, i9, o7, by omega, fun p10 H10 S10 e10 => ?_⟩
  refine a_gtup (SqT.of e10) rfl ?_
  walk_at "w"
  refine a_ixT (SqT.of (S10 _ _ sh9)) (at_of (j := 0) rfl rfl) ?_
  walk_at "w"
  refine a_ixT (SqT.of (S10 _ _ sh9)) (at_of (j := 1) rfl rfl) ?_
  walk_at "w"
  intro x dx n11 m11 ne11
  refine ⟨x, dx, m, R, rfl, upd_same, ne11, hm, hR, fun H11 B11 s11 => ⟨rfl, ?_⟩⟩
  have S11 : Same H10 H11 := But2.fresh n11 m11 B11
  have S911 := S10.trans S11
  have hd11 := hd9.same S911
  have B11' := B9.same S911
  have sh11 := S911 _ _ sh9
  have i11 := i9.same S911
  have a11 := S911 _ _ a9
  have T11 := tabs_but hd B11' hT
  have own11 : IsSh K H11 (.ref x) m R := ⟨x, dx, rfl, s11⟩
  generalize hval : f.val m (ldOf mem) = val
  walk_at "w"
  refine a_cut (fun σ' H' => ∃ td, σ' = [some (.ref d), some (.ref sh), some v, some (.ref a), some (optV val), some (.int (f.ht : Int)), some (.int (f.cnt : Int)), some (.ref x), some (.ref td), none, none, none, none, none, none, none, none] ∧ KeepN d H H' ∧ IsDi H' d ∧ Tabs Tb H' ∧
    H' sh = some (.tup [.int (m : Int), .int (R : Int)]) ∧ IsF H' v f ∧ H' a = some (.dK (memK mem)) ∧ IsSh K H' (.ref x) m R ∧ ToldR H' td m R f) ?_ ?_
  · walk_at "w"
    refine ⟨T11, fun H12 X12 T12 => ?_⟩
    have hd12 : IsDi H12 d := by
      obtain ⟨x1, x2, x3, e⟩ := hd11
      exact ⟨x1, x2, x3, extn_lst X12 e⟩
    have own12 : IsSh K H12 (.ref x) m R := ⟨x, dx, rfl, slt_ext X12 s11⟩
    have K12 : KeepN d H H12 := (KeepN.but B11').trans (KeepN.ext X12)
    have sh12 := extn_tup X12 sh11
    have i12 := i11.ext X12
    have a12 := extn_dK X12 a11
    have fin : ∀ td H13, Same H12 H13 → ToldR H13 td m R f → ∃ td', [some (V.ref d), some (.ref sh), some v, some (.ref a), some (optV val), some (.int (f.ht : Int)), some (.int (f.cnt : Int)), some (.ref x), some (.ref td), none, none, none, none, none, none, none, none] = [some (V.ref d), some (.ref sh), some v, some (.ref a), some (optV val), some (.int (f.ht : Int)), some (.int (f.cnt : Int)), some (.ref x), some (.ref td'), none, none, none, none, none, none, none, none] ∧ KeepN d H H13 ∧ IsDi H13 d ∧ Tabs Tb H13 ∧
      H13 sh = some (.tup [.int (m : Int), .int (R : Int)]) ∧ IsF H13 v f ∧ H13 a = some (.dK (memK mem)) ∧ IsSh K H13 (.ref x) m R ∧ ToldR H13 td' m R f := fun td H13 S13 z =>
      ⟨td, rfl, K12.trans (KeepN.of S13), hd12.same S13, T12.ext S13, S13 _ _ sh12, i12.same S13, S13 _ _ a12, own12.same S13, z⟩
    show tCall (sp_formula_steps K) [] (ETold K _) (tCons (tVar 7) (tCons (tVar 2) tNil)) _ H12 _
    walk_at "w"
    refine ⟨.ref x, v, m, R, f, rfl, own12, hm, hR, i12, o7, by omega, fun h1 dd p H13 S13 ep ed => ?_, fun h1 h2 dd H13 S13 ed => ?_, fun h1 h2 p H13 S13 ep => ?_⟩
    · refine .inl ⟨rfl, dd, _, rfl, ed, a_new fun td H14 n14 S14 e14 => ?_⟩
      walk_at "w"
      exact fin td H14 (S13.trans S14) (.inl ⟨h1, p, e14, S14 _ _ ep⟩)
    · refine .inr ⟨rfl, dd, _, rfl, ed, a_new fun td H14 n14 S14 e14 => ?_⟩
      walk_at "w"
      exact fin td H14 (S13.trans S14) (.inr (.inl ⟨h1, h2, e14⟩))
    · refine ⟨Nat.le_of_ble_eq_true rfl, a_new fun td H14 n14 S14 e14 => ?_⟩
      walk_at "w"
      exact fin td H14 (S13.trans S14) (.inr (.inr ⟨h1, h2, p, e14, S14 _ _ ep⟩))
  · intro σ' Hb ⟨td, e, Kb, hdb, Tbb, shb, ib, ab, ownb, tld⟩
    subst e
    have done_ : ∀ H', Same Hb H' → Q (.bl true) H' := fun H' S' => q H' (Kb.trans (KeepN.of S')) (hdb.same S') (Tbb.ext S')
    walk_at "w"
    refine ⟨v, f, rfl, ib, o7, by omega, fun H1 S1 => ?_⟩
    walk_at "w"
    refine d_nf rfl ?_
    walk_at "w"
    refine a_ixT (SqT.of (S1 _ _ shb)) (at_of (j := 1) rfl rfl) ?_
    walk_at "w"
    refine d_ite (fun h => ?_) fun h => ?_
    · rcases tld.same S1 with ⟨h1, p, et, ep⟩ | ⟨h1, _⟩ | ⟨h1, _⟩
      · walk_at "w"
        walk_at "t"
        intro q2 H2 n2 S2 e2
        walk_at "w"
        walk_at "t"
        intro q3 H3 n3 S3 e3
        have S13 := S2.trans S3
        refine a_eqSame (d := .tuple [.str "refused", .tuple [.str "registers", .int (f.ht : Int)]]) (.tup (SqT.of (S13 _ _ et)) (.cons (.str _) (.cons (.tup (SqT.of (S13 _ _ ep)) (.cons (.str _) (.cons (.int _) .nil))) .nil)))
          (.tup (SqT.of e3) (.cons (.str _) (.cons (.tup (SqT.of (S3 _ _ e2)) (.cons (.str _) (.cons (.int _) .nil))) .nil))) (shaped_reg _) ?_
        exact done_ _ (S1.trans S13)
      · exact absurd h1 (by omega)
      · exact absurd h1 (by omega)
    have hle : f.ht ≤ R - 1 := by omega
    walk_at "w"
    refine a_ixT (SqT.of (S1 _ _ shb)) (at_of (j := 0) rfl rfl) ?_
    walk_at "w"
    refine ⟨m, rfl, hm.2, fun H2 S2 => ?_⟩
    have S02 := S1.trans S2
    have h2m : ((2 ^ m : Nat) : Int) = 2 ^ m := castpow m
    walk_at "w"
    refine d_ite (fun h' => ?_) fun h' => ?_
    · rcases tld.same S02 with ⟨h1, _⟩ | ⟨h1, h2, et⟩ | ⟨h1, h2, _⟩
      · exact absurd hle h1
      · walk_at "w"
        refine a_ixT (SqT.of (S02 _ _ shb)) (at_of (j := 0) rfl rfl) ?_
        walk_at "w"
        refine ⟨m, rfl, hm.2, fun H3 S3 => ?_⟩
        walk_at "w"
        walk_at "t"
        intro q4 H4 n4 S4 e4
        refine a_eqSame (d := .tuple [.str "refused", .str "many", .int (2 ^ m - 1)]) (.tup (SqT.of (S4 _ _ (S3 _ _ et))) (.cons (.str _) (.cons (.str _) (.cons (.int _) .nil)))) (.tup (SqT.of e4) (.cons (.str _) (.cons (.str _) (.cons (.int _) .nil)))) (shaped_many _) ?_
        exact done_ _ ((S02.trans S3).trans S4)
      · exact absurd h2 (by omega)
    have hlt : f.cnt < 2 ^ m := by omega
    obtain ⟨pw, et0, ew0⟩ : ∃ p, Hb td = some (.tup [.str "told", .ref p]) ∧ Hb p = some (.tup (wordsV (comp f (List.range' 1 f.ht)))) := by
      rcases tld with ⟨h1, _⟩ | ⟨_, h2, _⟩ | ⟨_, _, p, e1, e2⟩
      · exact absurd hle h1
      · exact absurd h2 (by omega)
      · exact ⟨p, e1, e2⟩
    have hrs : ∀ x ∈ List.range' 1 f.ht, 0 < x ∧ x < R := fun x hx => by
      have := List.mem_range'_1.mp hx
      omega
    have hcf := comp_fit (R := R) f (List.range' 1 f.ht) o7 (by rw [List.length_range']; exact Nat.le_refl _) hrs
    have hcl := comp_len f (List.range' 1 f.ht)
    generalize hins : comp f (List.range' 1 f.ht) = ins at *
    walk_at "w"
    refine a_ixT (SqT.of (S02 _ _ et0)) (at_of (j := 0) rfl rfl) ?_
    walk_at "w"
    refine d_nf rfl ?_
    walk_at "w"
    refine a_ixT (SqT.of (S02 _ _ et0)) (at_of (j := 1) rfl rfl) ?_
    walk_at "w"
    refine a_isi (.ty _) (tyT (SqT.of (S02 _ _ ew0))) (kit_ty (r := true) (by decide +kernel)) ?_
    walk_at "w"
    refine iteF ?_
    walk_at "w"
    refine a_ixT (SqT.of (S02 _ _ et0)) (at_of (j := 1) rfl rfl) ?_
    walk_at "w"
    refine a_lenT (SqT.of (S02 _ _ ew0)) ?_
    walk_at "w"
    refine d_nf (by rw [wordsV, List.length_map, hcl]) ?_
    walk_at "w"
    refine a_ixT (SqT.of (S02 _ _ et0)) (at_of (j := 1) rfl rfl) ?_
    refine ⟨pw, rfl, ⟨_, SqT.of (S02 _ _ ew0)⟩, ?_⟩
    refine lc_ofT (SqT.of (S02 _ _ ew0)) (by rw [wordsV, List.length_map, hcl]; omega) (fun _ => none) (fun i x H' R' N' hx S' h1 h2 => ?_) fun D H3 S3 nD eD => ?_
    · obtain ⟨is, his, rfl⟩ : ∃ is ∈ ins, x = .int (enc is) := by
        unfold wordsV at hx
        rw [List.getElem?_map] at hx
        cases e : ins[i]? with
        | none => rw [e] at hx; cases hx
        | some is => rw [e] at hx; cases hx; exact ⟨is, List.mem_of_getElem? e, rfl⟩
      walk_at "w"
      refine ⟨rfl, ?_⟩
      walk_at "w"
      refine ⟨.ref x, m, R, is, rfl, (ownb.same S02).same S', hR8, (hcf is his).1, fun H4 S4 => ?_⟩
      walk_at "w"
      refine d_f ?_ ?_
      · have := List.mem_range'_1.mp (hcf is his).2
        omega
      · exact h2 H4 rfl S4
    have S03 := S02.trans S3
    rw [show (List.range (wordsV ins).length).filterMap (fun _ => (none : Option V)) = [] by rw [List.filterMap_eq_nil_iff]; exact fun _ _ => rfl] at eD
    walk_at "w"
    refine ⟨Nat.le_of_ble_eq_true rfl, a_new fun p4 H4 n4 S4 e4 => ?_⟩
    refine a_neSame (d := .list []) (.lst (SqL.of (S4 _ _ eD)) .nil) (.lst (SqL.of e4) .nil) (by decide +kernel) ?_
    have S04 := S03.trans S4
    walk_at "w"
    refine ⟨.ref sh, a, m, R, mem, rfl, ⟨sh, rfl, S04 _ _ shb⟩, hR8.2, S04 _ _ ab, hmem, fun st rg me ou H5 nst S5 est erg eme eou => ?_⟩
    have S05 := S04.trans S5
    have nstb : Hb st = none := S04.free nst
    have hd5 := hdb.same S05
    have nsd : st ≠ d := hd5.ne est fun _ z => HO.noConfusion z
    walk_at "w"
    refine ⟨Nat.le_of_ble_eq_true rfl, a_new fun l0 H6 n6 S6 e6 => ?_⟩
    have hd6 := hd5.same S6
    have S06 := S05.trans S6
    have n0d : l0 ≠ d := hd5.ne0 n6
    walk_at "w"
    refine a_ixT (SqT.of (S06 _ _ shb)) (at_of (j := 1) rfl rfl) ?_
    walk_at "w"
    refine ⟨1, R, rfl, by omega, ?_⟩
    refine lc_roll hd6 (by omega) (fun y => ∃ i : Int, y = .int i ∧ 0 ≤ i ∧ i < 16) (fun i H' R' N' hi B' hd' h1 => ?_) fun D2 H7 ys B7 hd7 nD2 eD2 hl hp => ?_
    · walk_at "w"
      refine ⟨rfl, ?_⟩
      walk_at "w"
      refine ⟨d, 16, rfl, hd', by decide, by decide, fun r H8 B8 hd8 r0 r1 => ?_⟩
      exact h1 _ _ B8 hd8 ⟨r, rfl, r0, r1⟩
    obtain ⟨rr, rfl, hrr⟩ := all_ints hp
    rw [intV_len] at hl
    have hrl : rr.length = R - 1 := by omega
    refine a_cat (B7 _ _ n0d e6) eD2 (Nat.le_of_lt (small1000 (show 1 + (intV rr).length ≤ 1000 by rw [intV_len]; omega))) (a_new fun hl8 H8 n8 S8 e8 => ?_)
    change H8 hl8 = some (.lst (intV (0 :: rr))) at e8
    have hd8 := hd7.same S8
    have B68 : But d H6 H8 := B7.same S8
    have est8 := B68 _ _ nsd (S6 _ _ est)
    walk_at "w"
    refine a_stp est8 (stK_put ..).2.1 ?_
    have nhs : hl8 ≠ st := fun z => by rw [z, B7 _ _ nsd (S6 _ _ est)] at n8; cases n8
    have nms : me ≠ st := fun z => by rw [z, est] at eme; exact stK_memK (HO.dK.inj (Option.some.inj eme))
    have nmd : me ≠ d := hd5.ne eme fun _ z => HO.noConfusion z
    have eme8 := B68 _ _ nmd (S6 _ _ eme)
    generalize hH9 : upd H8 st _ = H9
    have kp9 : ∀ b o, b ≠ d → Hb b = some o → H9 b = some o := fun b o hb e => by
      rw [← hH9, upd_ne (ne_of_none e nstb)]
      exact B68 _ _ hb (S06 _ _ e)
    have hd9 : IsDi H9 d := by
      obtain ⟨x1, x2, x3, e⟩ := hd8
      exact ⟨x1, x2, x3, by rw [← hH9, upd_ne nsd.symm]; exact e⟩
    have est9 : H9 st = some (.dK (stK (.int 0) (.ref hl8) (.ref me) (.int 0) (.bl false) .non (.ref ou))) := by rw [← hH9]; exact upd_same
    have ehl9 : H9 hl8 = some (.lst (intV (0 :: rr))) := by rw [← hH9, upd_ne nhs]; exact e8
    have eme9 : H9 me = some (.dK (memK mem)) := by rw [← hH9, upd_ne nms]; exact eme8
    clear hH9
    have B9b : But d Hb H9 := fun b o hb e => kp9 b o hb e
    have T9 := tabs_but hdb B9b Tbb
    have shd : sh ≠ d := hdb.ne shb fun _ z => HO.noConfusion z
    have sh9' := kp9 _ _ shd shb
    have ad : a ≠ d := hdb.ne ab fun _ z => HO.noConfusion z
    have a9' := kp9 _ _ ad ab
    have td9 := kp9 _ _ (hdb.ne et0 fun _ z => HO.noConfusion z) et0
    have ew9 := kp9 _ _ (hdb.ne ew0 fun _ z => HO.noConfusion z) ew0
    have K9 : KeepN d H H9 := Kb.trans (KeepN.but B9b)
    have own9 : IsSh K H9 (.ref x) m R := by
      obtain ⟨a', dx', ea, hs⟩ := ownb
      refine ⟨a', dx', ea, ?_⟩
      rcases hs with ⟨h1, h2⟩ | ⟨h1, h2⟩
      · exact .inl ⟨kp9 _ _ (hdb.ne h1 fun _ z => HO.noConfusion z) h1, h2⟩
      · refine .inr ⟨kp9 _ _ (hdb.ne h1 fun _ z => ?_) h1, kp9 _ _ (hdb.ne h2 fun _ z => ?_) h2⟩ <;> cases z
    have hr0w : ∀ y ∈ (0 :: rr : List Int), Wd m y := fun y hy => by
      have h16 : (16 : Int) ≤ 2 ^ m := by
        have h1 : (2 : Nat) ^ 4 ≤ 2 ^ m := Nat.pow_le_pow_right (by decide) hm.1
        have h2 : ((2 ^ 4 : Nat) : Int) ≤ ((2 ^ m : Nat) : Int) := Int.ofNat_le.mpr h1
        rw [castpow, castpow] at h2
        exact h2
      rcases List.mem_cons.mp hy with rfl | hy
      · exact ⟨Int.le_refl _, two_pos m⟩
      · have := hrr y hy
        exact ⟨this.1, by omega⟩
    have hr0l : (0 :: rr : List Int).length = R := by rw [List.length_cons, hrl]; omega
    have hr00 : (0 :: rr : List Int)[0]? = some 0 := rfl
    generalize (0 :: rr : List Int) = rg0 at *
    walk_at "w"
    refine a_cut (fun σ' H' => ∃ (x2 me2 ou2 : Addr), σ' = [some (.ref d), some (.ref sh), some v, some (.ref a), some (optV val), some (.int (f.ht : Int)), some (.int (f.cnt : Int)), some (.ref x), some (.ref td), some (.ref st), some (.ref hl8), some (.ref x2), some (.int 0), none, none, none, none] ∧ Same H9 H' ∧
      McS K H' ⟨m, R, ins, mem, x, pw, me2, ou2⟩ ∧ IsP K H' ⟨m, R, ins, mem, x, pw, me2, ou2⟩ (.ref x2) ⟨0, rg0, false⟩) ?_ ?_
    · walk_at "w"
      refine a_makeK ?_
      walk_at "w"
      refine a_ixT (SqT.of td9) (at_of (j := 1) rfl rfl) ?_
      walk_at "w"
      refine a_tupOfL (SqL.of ehl9) (a_new fun rt H10 n10 S10 e10 => ?_)
      walk_at "w"
      refine ⟨rfl, rfl, fun x2 dx2 n11 m11 ne11 => ?_⟩
      have old : Same H10 (upd (upd H10 dx2 (.own x2)) x2 (.ins (He.ga K "Plain") dx2 [])) := fun b o e => by rw [upd_ne (ne_of_none e n11), upd_ne (ne_of_none e m11)]; exact e
      refine ⟨x2, dx2, .ref x, .ref pw, .int 0, .ref rt, .ref a, .int 0, .bl false, .non, .ref (outsAt K), rfl, upd_same, ne11, by rw [upd_ne ne11]; exact upd_same, .inr ⟨pw, a, outsAt K, m, R, ins.map enc, rg0, mem, rfl, rfl, rfl, rfl, rfl, rfl, rfl, (own9.same S10).same old, hm, hR,
        by rw [← words_ints]; exact old _ _ (S10 _ _ ew9), ⟨by rw [List.length_map, hcl]; exact f.cnt_pos, by rw [List.length_map, hcl]; omega⟩, fun y hy => ?_, .inr ⟨rt, rfl, old _ _ e10⟩, hr0l, hr0w, hr00, old _ _ (S10 _ _ a9'), hmem, T.t_outs _, fun rg2 me2 H12 B12 e12 f12 s12 => ⟨rfl, ?_⟩⟩⟩
      · obtain ⟨i, hi, rfl⟩ := List.mem_map.mp hy
        exact enc_word hR8.2 (hcf i hi).1
      have S12 : Same H10 H12 := But2.fresh n11 m11 B12
      have S912 := S10.trans S12
      walk_at "w"
      refine ⟨_, _, rfl, x2, me2, outsAt K, rfl, S912, ⟨own9.same S912, ?_, f12, T.t_outs _⟩, ⟨x2, dx2, rg2, rfl, s12, SqT.of e12⟩⟩
      show SqT K H12 pw (intV (ins.map enc))
      rw [← words_ints]
      exact SqT.of (S912 _ _ ew9)
    · intro σ' Hc ⟨x2, me2, ou2, e, Sc, hM, hP⟩
      subst e
      have hfit : Mc.Fit ⟨m, R, ins, mem, x, pw, me2, ou2⟩ := ⟨hm, hR, fun i hi => (hcf i hi).1, fun p hp => ⟨(hmem.2.2 p hp).1, (hmem.2.2 p hp).2.1⟩⟩
      have tn := turns (c := ⟨m, R, ins, mem, x, pw, me2, ou2⟩) (r0 := rg0) (show 1 ≤ m by omega) (show ins.length < 2 ^ m by omega) lw hfit.ins ⟨hr0l, hr0w, hr00⟩
      have ran := run_comp (w := m) (by omega) lw f (List.range' 1 f.ht) rg0 List.nodup_range' (fun y hy => by rw [hr0l]; exact (hrs y hy).2) (by rw [List.length_range']; exact Nat.le_refl _) hr0w
      rw [hins, hval] at ran
      have hkey : ∀ {i : Nat}, i < ins.length → ∃ is, ins[i]? = some is := fun h => ⟨_, List.getElem?_eq_getElem h⟩
      have hc1 : ∃ c : Mc, c = ⟨m, R, ins, mem, x, pw, me2, ou2⟩ := ⟨_, rfl⟩
      obtain ⟨c, hc⟩ := hc1
      rw [← hc] at hfit tn hM hP
      have cm : c.m = m := by rw [hc]
      have cR : c.R = R := by rw [hc]
      have cins : c.ins = ins := by rw [hc]
      have cmem : c.mem = mem := by rw [hc]
      have cou : c.ou = ou2 := by rw [hc]
      have cme : c.me = me2 := by rw [hc]
      have Skp : KeepN d H Hc := K9.trans (KeepN.of Sc)
      walk_at "w"
      refine ⟨_, rfl, by omega, by omega, ?_⟩
      rw [Int.toNat_natCast]
      refine for_up (fun i σ' H' => ∃ (stv : V) (k : Nat) (o : Option V), σ' = [some (.ref d), some (.ref sh), some v, some (.ref a), some (optV val), some (.int (f.ht : Int)), some (.int (f.cnt : Int)), some (.ref x), some (.ref td), some stv, some (.ref hl8), some (.ref x2), some (.int (k : Int)), o, none, none, none] ∧ Same Hc H' ∧
        IsS H' c stv (iterS c i ⟨0, rg0, false⟩) ∧ k ≤ i ∧ iterS c k ⟨0, rg0, false⟩ = iterS c i ⟨0, rg0, false⟩ ∧ ((iterS c i ⟨0, rg0, false⟩).bad = false → k = i))
        ⟨.ref st, 0, none, rfl, Same.refl _, ⟨st, hl8, me, ou, 0, rfl, Sc _ _ est9, Sc _ _ ehl9, by rw [cmem]; exact Sc _ _ eme9, fun h => nomatch h⟩, Nat.le_refl _, rfl, fun _ => rfl⟩ (fun i σ' H3 hi hW => ?_) fun σ' H3 hW => ?_
      · obtain ⟨stv, k, o, rfl, S3, hS, hk, hki, hkb⟩ := hW
        have tz := tn i (by rw [cins]; omega)
        have hs1 := iterS_succ c i ⟨0, rg0, false⟩
        generalize iterS c i ⟨0, rg0, false⟩ = z at *
        obtain ⟨sta, rga, mea, oua, fa, rfl, es1, es2, es3, es4⟩ := id hS
        walk_at "w"
        refine ⟨sta, _, rfl, dg_en es1, ?_⟩
        walk_at "w"
        cases hb : z.bad with
        | true =>
          rw [hb, if_pos rfl] at hs1
          rw [if_pos rfl]
          refine d_f (fun h => nomatch h) ?_
          walk_at "w"
          refine ⟨.ref sta, k, _, rfl, S3, by rw [hs1]; exact hS, by omega, by rw [hs1]; exact hki, fun h => ?_⟩
          rw [hs1, hb] at h
          cases h
        | false =>
          rw [hb, if_neg Bool.false_ne_true] at hs1
          obtain rfl := hkb hb
          have hpc := tz.pc hb
          obtain ⟨is, his⟩ := hkey (i := k) (by omega)
          rw [if_neg Bool.false_ne_true]
          refine d_t rfl ?_
          walk_at "w"
          refine ⟨sta, _, rfl, dg_pc es1, ?_⟩
          walk_at "w"
          refine d_t (by rw [hpc]; omega) ?_
          walk_at "w"
          refine a_ixT (SqT.of (S3 _ _ (Sc _ _ td9))) (at_of (j := 1) rfl rfl) ?_
          walk_at "w"
          refine ⟨.ref sh, .ref sta, pw, c, z, is, rfl, by rw [cm, cR]; exact ⟨sh, rfl, S3 _ _ (Sc _ _ sh9')⟩, hfit, by rw [cm, cmem]; exact hmem, ?_, hS, tz.ok, hb, by rw [hpc, cins]; exact his, fun v' H4 S4 hS4 => ?_⟩
          · rw [cins]
            show SqT K H3 pw (intV (ins.map enc))
            rw [← words_ints]
            exact SqT.of (S3 _ _ (Sc _ _ ew9))
          walk_at "w"
          refine ⟨_, _, rfl, v', k + 1, _, rfl, S3.trans S4, by rw [hs1]; exact hS4, Nat.le_refl _, rfl, fun _ => rfl⟩
      · obtain ⟨stv, k, o, rfl, S3, hS, hk, hki, hkb⟩ := hW
        have tz := tn f.cnt (by rw [cins]; omega)
        have okj : ∀ j, j < k → (iterS c j ⟨0, rg0, false⟩).Ok c := fun j hj => (tn j (by rw [cins]; omega)).ok
        have inj : ∀ j, j < k → (iterS c j ⟨0, rg0, false⟩).bad = false → ∃ i, c.ins[(iterS c j ⟨0, rg0, false⟩).pc]? = some i := fun j hj hb => by
          rw [(tn j (by rw [cins]; omega)).pc hb, cins]
          exact hkey (by omega)
        have etk : c.ins.take f.cnt = ins := by rw [cins, List.take_of_length_le (by omega)]
        have zr := tz.regs
        have zb := tz.bad
        rw [etk, cm, cmem] at zr zb
        rw [ran.ok] at zb
        have zlen : (execs m (ldOf mem) ins rg0).1.length = R := ran.len.trans hr0l
        have zat := ran.at_
        have zout := ran.out
        obtain ⟨pa, pdx, prg, ep, pslt, psq⟩ := id hP
        cases ep
        have hki' := hki
        generalize hz : iterS c f.cnt ⟨0, rg0, false⟩ = z at *
        walk_at "w"
        refine ⟨x2, pdx, _, rfl, slt_same S3 pslt, ?_⟩
        walk_at "w"
        refine ⟨.ref x2, c, ⟨0, rg0, false⟩, k, _, rfl, hfit, hM.same S3, hP.same S3, T.t_bells _, by omega, okj, inj, fun v' H4 S4 hP4 => ?_⟩
        rw [hki'] at hP4
        obtain ⟨la, ldx, lrg, rfl, lslt, lsq⟩ := hP4
        obtain ⟨sta, rga, mea, oua, fa, rfl, es1, es2, es3, es4⟩ := id hS
        walk_at "w"
        refine ⟨la, ldx, _, rfl, lslt, la, ldx, _, _, rfl, lslt, rfl, ?_⟩
        walk_at "w"
        have S04 := S3.trans S4
        refine a_lstOfT lsq (a_new fun q5 H5 n5 S5 e5 => ?_)
        walk_at "w"
        refine ⟨sta, _, rfl, dg_rg (S5 _ _ (S4 _ _ es1)), ?_⟩
        refine a_neSame (d := .list (z.regs.map .int)) (.lst (SqL.of e5) (dp_ints _)) (.lst (SqL.of (S5 _ _ (S4 _ _ es2))) (dp_ints _)) (shaped_ints _).1 ?_
        walk_at "w"
        refine ⟨la, ldx, _, rfl, slt_same S5 lslt, la, ldx, _, _, rfl, slt_same S5 lslt, rfl, ?_⟩
        walk_at "w"
        have zl : z.regs.length = R := by rw [zr]; exact zlen
        have hh1 : f.ht + 1 ≤ R := by omega
        rw [show ((f.ht : Int) + 1) = ((f.ht + 1 : Nat) : Int) from rfl]
        refine a_slP (sqT_same S5 lsq) (fun h => ?_) (a_new fun q6 H6 n6 S6 e6 => ?_)
        · have h1 := h.1
          rw [intV_len, zl] at h1
          have h2 : min (f.ht + 1) R = 0 := (HT.sIx_nat R 0 (f.ht + 1)).symm.trans h1
          omega
        rw [cutD (by rw [intV_len, zl]; exact hh1)] at e6
        walk_at "w"
        have S46 := S5.trans S6
        rw [show ((f.ht : Int) + 1) = ((f.ht + 1 : Nat) : Int) from rfl]
        refine a_slL (SqL.of (S46 _ _ (S04 _ _ (Sc _ _ ehl9)))) (a_new fun q7 H7 n7 S7 e7 => ?_)
        rw [cutD (by rw [intV_len, hr0l]; exact hh1)] at e7
        walk_at "w"
        refine a_tupOfL (SqL.of e7) (a_new fun q8 H8 n8 S8 e8 => ?_)
        have S48 := (S46.trans S7).trans S8
        have same : (intV z.regs).drop (f.ht + 1) = intV (z.regs.drop (f.ht + 1)) := by unfold intV; rw [List.map_drop]
        have same0 : (intV rg0).drop (f.ht + 1) = intV (z.regs.drop (f.ht + 1)) := by
          unfold intV
          rw [← List.map_drop]
          congr 1
          refine List.ext_getElem? fun i => ?_
          rw [List.getElem?_drop, List.getElem?_drop, zr]
          exact (zout _ fun hm' => by have := List.mem_range'_1.mp hm'; omega).symm
        rw [same] at e6
        rw [same0] at e8
        refine a_neSame (d := .tuple ((z.regs.drop (f.ht + 1)).map .int)) (.tup (SqT.of (S8 _ _ (S7 _ _ e6))) (dp_ints _)) (.tup (SqT.of e8) (dp_ints _)) (shaped_ints _).2 ?_
        have fin : ∀ H', Same H8 H' → Q (.bl true) H' := fun H' S' => by
          have S0 := ((S04.trans S48).trans S')
          exact q H' (Skp.trans (KeepN.of S0)) ((hd9.same Sc).same S0) ((T9.ext Sc).ext S0)
        walk_at "w"
        have lslt8 := slt_same S48 lslt
        cases val with
        | none =>
          have zbt : z.bad = true := zb
          refine d_t rfl ?_
          walk_at "w"
          refine ⟨la, ldx, _, rfl, lslt8, la, ldx, _, _, rfl, lslt8, rfl, ?_⟩
          walk_at "w"
          walk_at "t"
          intro q9 H9 n9 S9 e9
          rw [show endV K z.bad = .ref (He.ga K "DIVIDE_FAULT") by rw [zbt]; rfl]
          refine a_eqSame (d := .tuple [.str "fault", .str "divide"]) (.tup (T.t_DIVIDE_FAULT H9) (.cons (.str _) (.cons (.str _) .nil))) (.tup (SqT.of e9) (.cons (.str _) (.cons (.str _) .nil))) shaped_div ?_
          walk_at "w"
          refine ⟨sta, _, rfl, dg_en (S9 _ _ (S48 _ _ (S4 _ _ es1))), ?_⟩
          rw [if_pos zbt]
          refine a_eqSame (d := .tuple [.str "fault", .str "divide"]) (.tup (SqT.of e9) (.cons (.str _) (.cons (.str _) .nil))) (.tup (SqT.of (S9 _ _ (S48 _ _ (S4 _ _ (es4 zbt))))) (.cons (.str _) (.cons (.str _) .nil))) shaped_div ?_
          exact fin _ S9
        | some x0 =>
          have zbf : z.bad = false := zb
          refine d_f (fun h => nomatch h) ?_
          walk_at "w"
          have hM8 := hM.same (S04.trans S48)
          refine ⟨la, ldx, _, rfl, lslt8, la, ldx, _, _, rfl, lslt8, rfl, ?_⟩
          rw [show endV K z.bad = .non by rw [zbf]; rfl]
          walk_at "w"
          refine ⟨la, ldx, _, rfl, lslt8, la, ldx, _, _, rfl, lslt8, rfl, ?_⟩
          walk_at "w"
          refine ⟨la, ldx, _, rfl, lslt8, la, ldx, _, _, rfl, lslt8, rfl, ?_⟩
          walk_at "w"
          refine ⟨la, ldx, _, rfl, lslt8, la, ldx, c.me, _, _, rfl, lslt8, rfl, hM8.me, fun mp H9 S9 e9 => ?_⟩
          walk_at "w"
          walk_at "t"
          intro t10 H10 n10 S10 e10
          walk_at "w"
          walk_at "t"
          intro t11 H11 n11 S11 e11
          walk_at "w"
          walk_at "t"
          intro t12 H12 n12 S12 e12
          have S1012 := S11.trans S12
          have S812 := (S9.trans S10).trans S1012
          rw [cmem] at e9
          refine a_neI2 (SqT.of (S1012 _ _ e10)) (SqT.of e12) (.cons (.inl (.inl ⟨rfl, rfl⟩)) (.cons (.inr ⟨.tuple [], .tuple [], .tup (sqT_same S812 hM8.ou) .nil, .tup (SqT.of (S12 _ _ e11)) .nil, by decide +kernel, by decide +kernel, rfl⟩) (.cons (.inl (.inl ⟨rfl, rfl⟩))
            (.cons (.inl (.inr (.inr (.inr ⟨mp, a, memK mem, memK mem, rfl, rfl, S1012 _ _ (S10 _ _ e9), S812 _ _ (S48 _ _ (S04 _ _ (Sc _ _ a9'))), rfl, fun q hq => ?_⟩)))) .nil)))) ?_
          · rw [← mem_find hmem] at hq
            obtain ⟨kk, hkk, rfl⟩ := List.mem_map.mp hq
            exact ⟨_, val_at hkk, .inl ⟨rfl, rfl⟩⟩
          walk_at "w"
          refine ⟨sta, _, rfl, dg_en (S812 _ _ (S48 _ _ (S4 _ _ es1))), ?_⟩
          rw [if_neg (by rw [zbf]; exact Bool.false_ne_true)]
          walk_at "w"
          refine d_t rfl ?_
          walk_at "w"
          refine ⟨la, ldx, _, rfl, slt_same S812 lslt8, la, ldx, _, _, rfl, slt_same S812 lslt8, rfl, ?_⟩
          have z1 : z.regs[1]? = some x0 := by
            rw [zr]
            have h1 := zat x0 rfl
            rw [show (List.range' 1 f.ht).getD 0 0 = 1 by
              obtain ⟨n, hn⟩ : ∃ n, f.ht = n + 1 := ⟨f.ht - 1, by have := f.ht_pos; omega⟩
              rw [hn, List.range'_succ]; rfl] at h1
            exact h1
          walk_at "w"
          refine a_ixT (sqT_same (S48.trans S812) lsq) (at_of (j := 1) rfl (at_int z1)) ?_
          walk_at "w"
          refine a_eqI (i := x0) (j := x0) ?_
          rw [decide_eq_true rfl]
          exact fin _ S812
end
end K83
end
section
set_option maxRecDepth 100000
set_option maxHeartbeats 8000000
namespace K83
open PySem PySem.Spec PyProof.Rows L2 LamX
local macro_rules | `(tactic| walk_at "s") => `(tactic| first
  | with_reducible refine a_seq ?_ | ((with_reducible refine a_varX ?_); refine ⟨_, rfl, ?_⟩) | with_reducible refine a_c ?_ | with_reducible refine a_op ?_ | with_reducible refine a_rI0 ?_ | with_reducible refine a_cons ?_ | with_reducible refine a_nil ?_
  | with_reducible refine a_next ?_ | with_reducible refine a_ret ?_ | with_reducible refine a_retN ?_ | with_reducible refine a_drop ?_ | with_reducible refine a_if ?_ | with_reducible refine a_asg ?_ | with_reducible refine a_un ?_
  | with_reducible refine a_rU ?_ | with_reducible refine a_eqI ?_ | with_reducible refine a_neI ?_ | with_reducible refine a_eqS ?_ | with_reducible refine a_neS ?_ | with_reducible refine a_test ?_ | with_reducible refine a_tB ?_ | with_reducible refine a_bl ?_ | with_reducible refine a_int ?_
  | with_reducible refine a_and ?_ | with_reducible refine a_or ?_ | with_reducible refine a_not ?_ | with_reducible refine a_andV ?_ | with_reducible refine a_orV ?_ | with_reducible refine a_notV ?_ | with_reducible refine a_ifE ?_ | with_reducible refine a_chain ?_ | with_reducible refine a_call ?_ | with_reducible refine a_cb ?_ | with_reducible refine a_star ?_
  | ((with_reducible refine a_nameX ?_); refine ⟨_, (by simp only [L2.wipe, L2.start, List.map_cons, List.map_nil, List.length_cons, List.length_nil, List.replicate_succ, List.replicate_zero, Nat.reduceSub, Nat.reduceAdd, Nat.zero_add, List.cons_append, List.nil_append, List.set_cons_zero, List.set_cons_succ]; exact rfl), ?_⟩) | with_reducible refine a_gcons ?_ | with_reducible refine a_gnil ?_ | with_reducible refine a_gsub ?_ | with_reducible refine a_par ?_ | ((with_reducible refine a_parX rfl ?_); refine ⟨_, (by simp only [L2.wipe, L2.start, List.map_cons, List.map_nil, List.length_cons, List.length_nil, List.replicate_succ, List.replicate_zero, Nat.reduceSub, Nat.reduceAdd, Nat.zero_add, List.cons_append, List.nil_append, List.set_cons_zero, List.set_cons_succ]; exact rfl), ?_⟩) | ((with_reducible refine a_augX ?_); refine ⟨_, rfl, ?_⟩) | with_reducible refine a_ipI ?_ | with_reducible refine a_tup ?_ | with_reducible refine a_lst ?_ | with_reducible refine a_sl ?_ | with_reducible refine a_sslX ?_
  | with_reducible refine a_tsl ?_ | with_reducible refine a_noPart ?_ | with_reducible refine a_part ?_ | with_reducible refine a_i1 ?_ | with_reducible refine a_i1b ?_ | with_reducible refine a_mx ?_ | with_reducible refine a_mn ?_ | with_reducible refine a_ab ?_ | with_reducible refine a_mat ?_ | with_reducible refine a_case ?_
  | ((with_reducible refine a_oneS ?_ ?_); omega) | ((with_reducible refine a_mask 1 ?_ ?_); decide) | ((with_reducible refine a_mask 3 ?_ ?_); decide) | ((with_reducible refine a_mask 6 ?_ ?_); decide) | ((with_reducible refine a_mask 9 ?_ ?_); decide) | ((with_reducible refine a_rI ?_ ?_); first | exact ⟨by decide, by decide⟩ | decide)
  | ((with_reducible refine a_shlK 12 ?_ ?_ ?_); rfl; exact shl_small (by omega) (by omega) (by decide)) | ((with_reducible refine a_shlK 9 ?_ ?_ ?_); rfl; exact shl_small (by omega) (by omega) (by decide)) | ((with_reducible refine a_shlK 6 ?_ ?_ ?_); rfl; exact shl_small (by omega) (by omega) (by decide)) | with_reducible refine a_kdGet ?_
  | with_reducible refine a_bm0 ?_ | with_reducible refine a_bm ?_ | with_reducible refine a_dnewT ?_ | with_reducible refine a_gsl ?_ | with_reducible refine a_mk ?_
  | with_reducible refine a_dget2 ?_ | with_reducible refine a_dnewK ?_ | with_reducible refine a_tli ?_ | with_reducible refine a_pair ?_ | with_reducible refine a_pair0 ?_
  | with_reducible refine a_lc ?_ | with_reducible refine a_itup ?_ | with_reducible refine a_ilst ?_ | with_reducible refine a_yes ?_ | with_reducible refine a_iitems ?_ | with_reducible refine a_dc ?_ | with_reducible refine a_isN0 ?_ | with_reducible refine a_notN0 ?_ | with_reducible refine a_izip ?_ | with_reducible refine a_dget ?_ | with_reducible refine a_propSl ?_ | with_reducible refine a_methSl ?_ | with_reducible refine a_for ?_ | with_reducible refine a_rng1 ?_ | with_reducible refine a_rng2 ?_
  | with_reducible refine iteT ?_ | with_reducible refine iteF ?_)
local macro_rules | `(tactic| walk_at "t") => `(tactic| refine ⟨Nat.le_of_ble_eq_true rfl, a_new ?_⟩)
local macro_rules | `(tactic| walk_at "w") => `(tactic| repeat walk_at "s")
local macro_rules | `(tactic| walk_at "t0") => `(tactic| refine ⟨Nat.le_of_ble_eq_true rfl, ?_⟩)
theorem passN {X : Cx} : Passes (L2.CX X.prog X.w) X C8.E0 := fun _ _ _ _ _ _ _ h => by
  obtain ⟨_, _, _, _, _, _, _, _, _, _, _, _, z⟩ := h
  exact z.elim
theorem sqL_keepN {K : PySem.W.Frag} {H H1 H2 : Hp} {a d : Addr} {xs : List V} (n : H d = none) (S : Same H H1) (k : KeepN d H1 H2) (h : SqL K H a xs) : SqL K H2 a xs := by
  rcases h with (h | ⟨o, h⟩) | h
  · exact .inl (.inl (k _ _ (ne_of_none h n) (S _ _ h) fun _ z => by cases z))
  · exact .inl (.inr ⟨o, k _ _ (ne_of_none h n) (S _ _ h) fun _ z => by cases z⟩)
  · exact .inr h
/-- the written formula of the law's end -/
abbrev fmE : Fm := .two 0 (.two 0 (.num 1) (.num 1)) (.two 1 (.num 1) (.cell 3))
theorem fmE_val : fmE.val 8 (ldOf [(3, 5)]) = some 254 := by decide +kernel
theorem memE : MemOk 8 [(3, 5)] := ⟨List.pairwise_singleton _ _, by decide, fun p hp => by cases List.mem_singleton.mp hp; exact ⟨⟨by decide, by decide⟩, ⟨by decide, by decide⟩, by decide⟩⟩
theorem shaped_end : SeqAt.shaped (.tuple [.int 254, .none]) = true := by decide +kernel
section
variable {P : Program} {w : World} {K : PySem.W.Frag} {mg : Str → Option Value} {base : Heap}
theorem sc_law : FnScope ["_law_script", "_law_at", "_law_dice_here", "_law_leaf", "_law_even", "_law_last"] ["_law_script"] (defScope (top 119)) := ⟨rfl, rfl, rfl, by decide +kernel, rfl, by decide +kernel, by decide +kernel⟩
abbrev nL : List Str := ["_law_script", "_law_at", "_law_dice_here", "_law_leaf", "_law_even", "_law_last"]
abbrev sp_law (K : PySem.W.Frag) (Tb : List (Addr × Str)) : Sp := fun vs H Q _ => ∃ (a : Addr) (ns : List Int), vs = [.ref a] ∧ SqL K H a (ns.map V.int) ∧ Tabs Tb H ∧ ∀ H', Q (.bl true) H'
theorem fn_law (T : Txt w K mg base) (pP : PrO P) {fd : FuncData} (F : FunD K "law" "law" (defArgs (top 119)) (defBody (top 119)) (defScope (top 119)) [] [] (He.ga K "law") fd) {Tb : List (Addr × Str)} {Pl Pt : Addr} (TB : TabB base mg (He.codeOf K ("law", none)) Pl) (TBr : TabB base mg (He.codeOf K ("_law_right", none)) Pt)
    (hmT : (Pl, lamQ "law") ∈ Tb) (hu : ∀ q ∈ Tb, q.1 = Pl → q.2 = lamQ "law") (hmR : (Pt, lamQ "_law_right") ∈ Tb) (huR : ∀ q ∈ Tb, q.1 = Pt → q.2 = lamQ "_law_right") :
    FnOk P w K mg base C8.CX0 142 (He.ga K "law") fd ["_law_script"] (sp_law K Tb) := by
  obtain ⟨oc, od, dV, kV, doc, pm, an, cdv, ct, osl, rfl, lk, hcd, _, _⟩ := F.ex
  obtain ⟨cc, rfl⟩ := He.codeIn_ref hcd
  have ec : He.codeOf K ("law", none) = cc := He.codeOf_eq lk rfl
  rw [ec] at TB
  obtain ⟨fdF, Ffs, bfs, kfs⟩ := fn_formula_steps (P := P) T pP
  obtain ⟨fdP, FPl, DPl⟩ := fn_Plain_init (P := P) T
  obtain ⟨mv, kPl⟩ := pl_key1 DPl
  obtain ⟨fdR, FRn, dsR, dR, bR⟩ := fn_run (P := P) T
  have Frun := FRn.raw bR dR
  obtain ⟨fdT, FRt, bRt, kRt⟩ := fn_law_right T pP TBr hmR huR
  have calR : C8.Cal P w K mg base 140 "_law_right" (sp_law_right Tb) [] := ⟨_, _, _, _, FRt, T.m_law_right, kRt, bRt, .nil⟩
  refine fn_of lk hcd sc_law (fun vs H Q E h => by obtain ⟨_, _, rfl, _⟩ := h; rfl) fun A outer s H vs Q E hr h => ?_
  obtain ⟨a, ns, rfl, ha, hT, q⟩ := h
  have hcode : (cxOf C8.CX0 P w K mg base nL "law" (defScope (top 119)) (He.ga K "law") (.ref cc) A outer s H E).nox.env.code = .ref cc := rfl
  suffices hh : ∃ t, PSs (cxOf C8.CX0 P w K mg base nL "law" (defScope (top 119)) (He.ga K "law") (.ref cc) A outer s H E).nox (defBody (top 119)) t ∧
      t ⟨fun _ H' => Q .non H', Q, fun _ _ => False, fun _ _ => False⟩ (start nL [V.ref a]) H by
    obtain ⟨t, a, b⟩ := hh
    exact ⟨t, a.nox, b⟩
  refine ⟨_, pss_cons (ps_for PassesOwn.never rfl (pi_range1 (by rfl) T.n_range (pa_cons (pe_callB (call_mx rfl) (by rfl) T.n_max (by decide +kernel) (pa_cons (pe_int) (pa_cons (pe_callB (call_mn rfl) (by rfl) T.n_min (by decide +kernel) (pa_cons (pe_int) (pa_cons (pe_callB call_lenS (by rfl) T.n_len (by decide +kernel) (pa_cons (pv 0) pa_nil)) pa_nil))) pa_nil))) pa_nil)) (pg_name (i := 1) sc_law.nd rfl (Or.inl rfl))
    (pss_cons (ps_set (i := 2) sc_law.nd rfl (Or.inl rfl) (C8.pe_c (ok_law_dice T) hr (by omega) rfl (pa_cons (pv 0) (pa_cons (pv 1) pa_nil))))
      (pss_one (ps_if (PW.pt (pw_or (pt_not (pt_val (C8.pe_c (calR) hr (by omega) rfl (pa_cons (pv 2) pa_nil)))) (pw_or1 (pt_not (pt_val (C8.pe_c (calR) hr (by omega) rfl (pa_cons (pv 2) pa_nil)))))))
        (pss_one (ps_ret (pe_bl)))
        (pss_nil)))))
  (pss_cons (ps_set (i := 3) sc_law.nd rfl (Or.inl rfl) (pe_tup (pa_cons (pe_str) (pa_cons (pe_int) pa_nil))))
  (pss_cons (ps_set (i := 4) sc_law.nd rfl (Or.inr rfl) (pe_tup (pa_cons (pe_str) (pa_cons (pe_str) (pa_cons (pe_tup (pa_cons (pe_str) (pa_cons (pe_str) (pa_cons (pv 3) (pa_cons (pv 3) pa_nil))))) (pa_cons (pe_tup (pa_cons (pe_str) (pa_cons (pe_str) (pa_cons (pv 3) (pa_cons (pe_tup (pa_cons (pe_str) (pa_cons (pe_int) pa_nil))) pa_nil))))) pa_nil))))))
  (pss_cons (ps_if (pt_cmpR (op_neD hr.units) (pe_told (k := 131) T pP rfl TB hcode hmT hu (hr.mono (by decide)) (lamS_by (sc := defScope (top 119)) (by decide +kernel)) rfl (fun _ _ _ _ _ => rfl) (fun A outer s H E f c1 hr2 => pe_call Ffs (hr2.mono (by decide)) rfl T.m_formula_steps kfs bfs .nil (passes_call (takes_of rfl rfl rfl rfl) fun _ _ _ _ h => h) (pa_cons (C8.pe_mk (mk_Shape T) hr2 (by omega) rfl (pa_cons pe_int (pa_cons pe_int pa_nil))) (pa_cons (pv 4) pa_nil)))) (pe_tup (pa_cons (pe_str) (pa_cons (pe_tup (pa_cons (pe_str) (pa_cons (pe_int) pa_nil))) pa_nil))) (nomark _))
    (pss_one (ps_ret (pe_bl)))
    (pss_nil))
  (pss_cons (ps_set (i := 5) sc_law.nd rfl (Or.inl rfl) (SlX.pe_methSl (E := C8.E0) (pe_makeK (E := C8.E0) T.mk_Plain FPl (hr.mono (by decide)) rfl T.m_Plain kPl pass0 (pa_cons (C8.pe_mk (mk_Shape T) hr (by omega) rfl (pa_cons pe_int (pa_cons pe_int pa_nil))) (pa_cons (pe_call (E := C8.E0) Ffs (hr.mono (by decide)) rfl T.m_formula_steps kfs bfs .nil passN (pa_cons (C8.pe_mk (mk_Shape T) hr (by omega) rfl (pa_cons pe_int (pa_cons pe_int pa_nil))) (pa_cons (pv 4) pa_nil))) pa_nil)) (pk_cons (pe_disp (pps_cons pe_int pe_int pps_nil) rfl rfl (by simp) (by decide)) pk_nil)) T.sc_Plain T.me_run Frun (hr.mono (by decide)) pass0 (pa_cons pe_int pa_nil)))
  (pss_one (ps_ret (pe_cmpR (op_eqD hr.units) (pe_tup (pa_cons (pe_ix ix_tup (SlX.pe_propSl (E := C8.E0) (pv 5) T.sc_Plain T.p_registers.at_ T.p_registers.get T.p_registers.tk T.p_registers.rc (get_registers T) (hr.mono (by decide)) (fun _ _ _ _ h => h.elim)) (pe_int) (fun _ _ => rfl)) (pa_cons (SlX.pe_propSl (E := C8.E0) (pv 5) T.sc_Plain T.p_ended.at_ T.p_ended.get T.p_ended.tk T.p_ended.rc (get_ended T) (hr.mono (by decide)) (fun _ _ _ _ h => h.elim)) pa_nil))) (pe_tup (pa_cons (pe_int) (pa_cons (pe_non) pa_nil))) (nomark _)))))))), ?_⟩
  walk_at "w"
  refine a_lenL ha ?_
  walk_at "w"
  refine ⟨_, rfl, by omega, by omega, ?_⟩
  generalize (max 1 (min 3 (((ns.map V.int).length : Nat) : Int))).toNat = n
  refine for_up (fun i σ' H' => ∃ o1 o2, σ' = [some (.ref a), o1, o2, none, none, none] ∧ SqL K H' a (ns.map V.int) ∧ Tabs Tb H') ⟨none, none, rfl, ha, hT⟩ (fun i σ' H' hi hW => ?_) fun σ' H' hW => ?_
  · obtain ⟨o1, o2, rfl, hS, hT'⟩ := hW
    walk_at "w"
    rw [Int.zero_add]
    refine ⟨a, ns, i, rfl, hS, fun d H1 nd S1 hd => ?_⟩
    walk_at "w"
    refine ⟨d, rfl, hd, hT'.ext S1, fun H2 K2 hd2 T2 => ?_⟩
    walk_at "w"
    refine iteF ?_
    walk_at "w"
    refine ⟨d, rfl, hd2, T2, fun H3 K3 hd3 T3 => ?_⟩
    walk_at "w"
    refine iteF ?_
    walk_at "w"
    exact ⟨_, _, rfl, sqL_keepN nd S1 (K2.trans K3) hS, T3⟩
  · obtain ⟨o1, o2, rfl, _, hT'⟩ := hW
    walk_at "w"
    walk_at "t"
    intro lf H1 n1 S1 e1
    walk_at "w"
    walk_at "t"
    intro i1 H2 n2 S2 e2
    walk_at "w"
    walk_at "t"
    intro cl H3 n3 S3 e3
    walk_at "w"
    walk_at "t"
    intro i2 H4 n4 S4 e4
    walk_at "w"
    walk_at "t"
    intro ev H5 n5 S5 e5
    have S25 := (S3.trans S4).trans S5
    have S15 := S2.trans S25
    have iE : IsF H5 (.ref ev) fmE := ⟨ev, .ref i1, .ref i2, rfl, e5, ⟨i1, .ref lf, .ref lf, rfl, S25 _ _ e2, ⟨lf, rfl, S15 _ _ e1⟩, ⟨lf, rfl, S15 _ _ e1⟩⟩, ⟨i2, .ref lf, .ref cl, rfl, S5 _ _ e4, ⟨lf, rfl, S15 _ _ e1⟩, ⟨cl, rfl, S5 _ _ (S4 _ _ e3)⟩⟩⟩
    have okE : fmE.ok := ⟨by decide, ⟨by decide, ⟨by decide, by decide⟩, ⟨by decide, by decide⟩⟩, ⟨by decide, ⟨by decide, by decide⟩, ⟨by decide, by decide⟩⟩⟩
    have T5 := hT'.ext (S1.trans S15)
    walk_at "w"
    refine ⟨T5, fun H6 X6 T6 => ?_⟩
    have i6 := iE.ext X6
    show tCall (sp_formula_steps K) [] (ETold K _) (tCons (tMake (He.ga K "Shape") (sp_Shape_init K) [] C8.E0 (tCons (tC (.int 8)) (tCons (tC (.int 2)) tNil))) (tCons (tVar 4) tNil)) _ H6 _
    walk_at "w"
    intro x dx n7 m7 ne7
    refine ⟨x, dx, 8, 2, rfl, upd_same, ne7, by decide, .inl rfl, fun H7 B7 s7 => ⟨rfl, ?_⟩⟩
    have S7 : Same H6 H7 := But2.fresh n7 m7 B7
    walk_at "w"
    refine ⟨.ref x, .ref ev, 8, 2, fmE, rfl, ⟨x, dx, rfl, s7⟩, by decide, .inl rfl, i6.same S7, okE, by decide, fun _ dd p H8 S8 ep ed => ?_, fun h => absurd h (by decide), fun h => absurd h (by decide)⟩
    refine .inl ⟨rfl, dd, _, rfl, ed, a_new fun td H9 n9 S9 e9 => ?_⟩
    walk_at "w"
    walk_at "t"
    intro q1 H10 n10 S10 e10
    walk_at "w"
    walk_at "t"
    intro q2 H11 n11 S11 e11
    have S911 := S10.trans S11
    refine a_neSame (d := .tuple [.str "refused", .tuple [.str "registers", .int 3]]) (.tup (SqT.of (S911 _ _ e9)) (.cons (.str _) (.cons (.tup (SqT.of (S911 _ _ (S9 _ _ ep))) (.cons (.str _) (.cons (.int _) .nil))) .nil)))
      (.tup (SqT.of e11) (.cons (.str _) (.cons (.tup (SqT.of (S11 _ _ e10)) (.cons (.str _) (.cons (.int _) .nil))) .nil))) (shaped_reg _) ?_
    have i11 := i6.same (((S7.trans S8).trans S9).trans S911)
    walk_at "w"
    refine a_makeK ?_
    walk_at "w"
    intro y dy n12 m12 ne12
    refine ⟨y, dy, 8, 4, rfl, upd_same, ne12, by decide, .inr (.inl rfl), fun H12 B12 s12 => ⟨rfl, ?_⟩⟩
    have S12 : Same H11 H12 := But2.fresh n12 m12 B12
    walk_at "w"
    intro y2 dy2 n13 m13 ne13
    refine ⟨y2, dy2, 8, 4, rfl, upd_same, ne13, by decide, .inr (.inl rfl), fun H13 B13 s13 => ⟨rfl, ?_⟩⟩
    have S13 : Same H12 H13 := But2.fresh n13 m13 B13
    walk_at "w"
    refine ⟨.ref y2, .ref ev, 8, 4, fmE, rfl, ⟨y2, dy2, rfl, s13⟩, by decide, .inr (.inl rfl), (i11.same S12).same S13, okE, by decide, fun h => absurd h (by decide), fun _ h => absurd h (by decide), fun _ _ pw H14 S14 ew => ?_⟩
    have own14 : IsSh K H14 (.ref y) 8 4 := ⟨y, dy, rfl, slt_same S14 (slt_same S13 s12)⟩
    have hcf := comp_fit (R := 4) fmE (List.range' 1 fmE.ht) okE (by decide) (by decide)
    have hcl := comp_len fmE (List.range' 1 fmE.ht)
    generalize hins : comp fmE (List.range' 1 fmE.ht) = ins at *
    replace hcl : ins.length = 7 := hcl
    walk_at "w"
    refine a_disp fun a2 H15 n15 S15' e15 => ?_
    walk_at "w"
    refine ⟨e15, [(.inl 3, .int 5)], rfl, by decide, ?_⟩
    rw [show mergeK [] [((.inl 3 : Key), V.int 5)] = memK [(3, 5)] from rfl]
    generalize hH16 : upd H15 a2 (.dK (memK [(3, 5)])) = H16
    have e16 : H16 a2 = some (.dK (memK [(3, 5)])) := by rw [← hH16]; exact upd_same
    have S16 : Same H14 H16 := by rw [← hH16]; exact same_upd S15' n15
    clear hH16
    refine ⟨rfl, rfl, fun z2 dz2 n17 m17 ne17 => ?_⟩
    have old : Same H16 (upd (upd H16 dz2 (.own z2)) z2 (.ins (He.ga K "Plain") dz2 [])) := fun b o e => by rw [upd_ne (ne_of_none e n17), upd_ne (ne_of_none e m17)]; exact e
    have hwd : ∀ y ∈ List.replicate 4 (0 : Int), Wd 8 y := fun y hy => by rw [List.eq_of_mem_replicate hy]; exact ⟨Int.le_refl _, two_pos 8⟩
    refine ⟨z2, dz2, .ref y, .ref pw, .int 0, .non, .ref a2, .int 0, .bl false, .non, .ref (outsAt K), rfl, upd_same, ne17, by rw [upd_ne ne17]; exact upd_same, .inr ⟨pw, a2, outsAt K, 8, 4, ins.map enc, List.replicate 4 0, [(3, 5)], rfl, rfl, rfl, rfl, rfl, rfl, rfl, (own14.same S16).same old, by decide, .inr (.inl rfl),
      by rw [← words_ints]; exact old _ _ (S16 _ _ ew), ⟨by rw [List.length_map, hcl]; decide, by rw [List.length_map, hcl]; decide⟩, fun u hu' => ?_, .inl ⟨rfl, rfl⟩, rfl, hwd, rfl, old _ _ e16, memE, T.t_outs _, fun rg2 me2 H18 B18 e18 f18 s18 => ⟨rfl, ?_⟩⟩⟩
    · obtain ⟨i, hi, rfl⟩ := List.mem_map.mp hu'
      exact enc_word (by decide) (hcf i hi).1
    have S18 : Same H16 H18 := But2.fresh n17 m17 B18
    have S1418 := S16.trans S18
    have hc1 : ∃ c : Mc, c = ⟨8, 4, ins, [(3, 5)], y, pw, me2, outsAt K⟩ := ⟨_, rfl⟩
    obtain ⟨c, hc⟩ := hc1
    have lw : ∀ k, Wd 8 (ldOf [(3, 5)] k) := ld_wd fun p hp => ⟨(memE.2.2 p hp).1, (memE.2.2 p hp).2.1⟩
    have hfit : c.Fit := by rw [hc]; exact ⟨show 4 ≤ 8 ∧ 8 ≤ 16 by decide, .inr (.inl rfl), fun i hi => (hcf i hi).1, fun p hp => ⟨(memE.2.2 p hp).1, (memE.2.2 p hp).2.1⟩⟩
    have hM : McS K H18 c := by
      rw [hc]
      refine ⟨own14.same S1418, ?_, f18, T.t_outs _⟩
      show SqT K H18 pw (intV (ins.map enc))
      rw [← words_ints]
      exact SqT.of (S1418 _ _ ew)
    have hP : IsP K H18 c (.ref z2) ⟨0, List.replicate 4 0, false⟩ := by
      rw [hc]
      exact ⟨z2, dz2, rg2, rfl, s18, SqT.of e18⟩
    have tn := turns (c := c) (r0 := List.replicate 4 0) (by rw [hc]; exact (by decide : 1 ≤ 8)) (by rw [hc]; show ins.length < 2 ^ 8; rw [hcl]; decide) (by rw [hc]; exact lw) hfit.ins (by rw [hc]; exact ⟨rfl, hwd, rfl⟩)
    have ran := run_comp (w := 8) (by decide) lw fmE (List.range' 1 fmE.ht) (List.replicate 4 0) List.nodup_range' (by decide) (by decide) hwd
    rw [hins, fmE_val] at ran
    have cins : c.ins = ins := by rw [hc]
    have tz := tn 7 (by rw [cins, hcl]; exact Nat.le_refl _)
    have zr := tz.regs
    have zb := tz.bad
    rw [cins, List.take_of_length_le (by rw [hcl]; exact Nat.le_refl _), show c.m = 8 by rw [hc], show c.mem = [(3, 5)] by rw [hc]] at zr zb
    rw [ran.ok] at zb
    have zat := ran.at_ 254 rfl
    rw [← zr] at zat
    have okj : ∀ j, j < 7 → (iterS c j ⟨0, List.replicate 4 0, false⟩).Ok c := fun j hj => (tn j (by rw [cins]; omega)).ok
    have inj : ∀ j, j < 7 → (iterS c j ⟨0, List.replicate 4 0, false⟩).bad = false → ∃ i, c.ins[(iterS c j ⟨0, List.replicate 4 0, false⟩).pc]? = some i := fun j hj hb => by
      rw [(tn j (by rw [cins]; omega)).pc hb, cins]
      exact ⟨_, List.getElem?_eq_getElem (by omega)⟩
    refine ⟨z2, dz2, _, rfl, s18, ?_⟩
    walk_at "w"
    refine ⟨.ref z2, c, ⟨0, List.replicate 4 0, false⟩, 7, _, rfl, hfit, hM, hP, T.t_bells _, by decide, okj, inj, fun v' H19 S19 hP19 => ?_⟩
    generalize iterS c 7 ⟨0, List.replicate 4 0, false⟩ = z at *
    obtain ⟨la, ldx, lrg, rfl, lslt, lsq⟩ := hP19
    walk_at "w"
    refine ⟨la, ldx, _, rfl, lslt, la, ldx, _, _, rfl, lslt, rfl, ?_⟩
    walk_at "w"
    refine a_ixT lsq (at_of (j := 1) rfl (at_int (x := 254) zat)) ?_
    walk_at "w"
    refine ⟨la, ldx, _, rfl, lslt, la, ldx, _, _, rfl, lslt, rfl, ?_⟩
    rw [show endV K z.bad = .non by rw [zb]; rfl]
    walk_at "w"
    walk_at "t"
    intro t20 H20 n20 S20 e20
    walk_at "w"
    walk_at "t"
    intro t21 H21 n21 S21 e21
    refine a_eqSame (d := .tuple [.int 254, .none]) (.tup (SqT.of (S21 _ _ e20)) (.cons (.int _) (.cons .non .nil))) (.tup (SqT.of e21) (.cons (.int _) (.cons .non .nil))) shaped_end ?_
    exact q _
end
end K83
end
set_option maxRecDepth 100000
set_option maxHeartbeats 8000000
namespace K83
open PySem PySem.Spec PyProof.Rows L2 LamX
theorem prO : PrO rw.prog := ⟨rfl, by decide +kernel⟩
theorem law_at {w : World} {K : PySem.W.Frag} {mg : Str → Option Value} {h : Heap} {fa : Addr} (KX : K.In h) (G : h.Ns mainGlobals mg) (c : Tells K83.fa fn ts tf gs xs fileK ex w h K) (hfa : mg "law" = some (.ref fa)) : LawAtS rw w K C8.CX0 142 63 "_law_script" mg fa h := by
  have T0 : Txt w K mg h := ⟨KX, G, c.x.t, c.x.more, c.g, c.e⟩
  have e := hfa.symm.trans T0.m_law
  cases e
  obtain ⟨fd, F⟩ := T0.f_law
  have m1 : (("law", none) : He.Defn) ∈ tf := List.mem_cons_self ..
  have m2 : (("_law_right", none) : He.Defn) ∈ tf := List.mem_cons_of_mem _ (List.mem_cons_self ..)
  have cases2 : ∀ {p : Addr × Addr}, p ∈ [He.cT K ("law", none), He.cT K ("_law_right", none)] → ∃ q ∈ tf, p = He.cT K q := fun {p} hp => by
    simp only [List.mem_cons, List.not_mem_nil, or_false] at hp
    rcases hp with rfl | rfl
    · exact ⟨_, m1, rfl⟩
    · exact ⟨_, m2, rfl⟩
  refine ⟨fd, [He.cT K ("law", none), He.cT K ("_law_right", none)], sp_law K [((He.cT K ("law", none)).2, lamQ "law"), ((He.cT K ("_law_right", none)).2, lamQ "_law_right")], fun p hp => ?_, fun p hp => ?_, fun p hp => ?_, fun s u => ?_, fun H a ns hl hb ht hS => ?_, fun base hK hN hTB => ?_⟩
  · obtain ⟨q, hq, rfl⟩ := cases2 hp
    exact c.x.empty q hq
  · obtain ⟨q, hq, rfl⟩ := cases2 hp
    exact c.x.out q hq
  · obtain ⟨q, hq, rfl⟩ := cases2 hp
    exact PySem.W.codeHd_of_K KX (c.x.hd q hq)
  · exact FunD.bindsA (ps := ["_law_script"]) F (fun _ _ _ _ _ _ us hl => match us, hl with | [_], _ => rfl) s [u] rfl
  · refine ⟨a, ns, rfl, hS, fun p hp => ?_, fun _ => rfl⟩
    simp only [List.mem_cons, List.not_mem_nil, or_false] at hp
    rcases hp with rfl | rfl
    · exact TabS.nil (ht _ (List.mem_cons_self ..))
    · exact TabS.nil (ht _ (List.mem_cons_of_mem _ (List.mem_cons_self ..)))
  · have T : Txt w K mg base := ⟨hK, hN, c.x.t, c.x.more, c.g, c.e⟩
    refine fn_law T prO F (hTB _ (List.mem_cons_self ..)) (hTB _ (List.mem_cons_of_mem _ (List.mem_cons_self ..))) (List.mem_cons_self ..) (fun q hq e => ?_) (List.mem_cons_of_mem _ (List.mem_cons_self ..)) (fun q hq e => ?_)
    · simp only [List.mem_cons, List.not_mem_nil, or_false] at hq
      rcases hq with rfl | rfl
      · rfl
      · exact absurd e.symm T.tne
    · simp only [List.mem_cons, List.not_mem_nil, or_false] at hq
      rcases hq with rfl | rfl
      · exact absurd e T.tne
      · rfl
end K83
open PySem PySem.W PySem.Calls PyProof.Rows
set_option maxRecDepth 100000 in
set_option maxHeartbeats 0 in
theorem PySem.Challenge.cw_truebeat_k83_whole_formulas_in_fewest_re_holds : PySem.Challenge.rw_truebeat_k83_whole_formulas_in_fewest_re.Holds := by
  w_on; o_law
  refine HandSHeadRun.head_any (r := OpenLaw.row PySem.Challenge.rw_truebeat_k83_whole_formulas_in_fewest_re) (q := K83.qv) (H := K83.hk) (ob := K83.ob) (M := 20000) (loose := K83.nms) (d := HandSHeadRun.topDef (OpenLaw.row PySem.Challenge.rw_truebeat_k83_whole_formulas_in_fewest_re).prog 119) (kwd := []) K83.ob_eq
    (by kernel_rfl) (fun s => by kernel_rfl) K83.run (by kernel_rfl) (by kernel_rfl) (by kernel_rfl) (by rfl) (by first | assumption | decide +kernel) (by decide +kernel) ⟨rfl, rfl, rfl, rfl, rfl, by decide +kernel⟩ ?hw ?hc
  case hw => w_witness2
  case hc =>
    refine LamX.walk_ofTsE (l := PySem.Challenge.rw_truebeat_k83_whole_formulas_in_fewest_re) (n := 63) (k := 142) (x := "_law_script") (CX := fun _ => C8.CX0) rfl (by decide) (by kernel_rfl) ⟨rfl, by decide, by decide⟩ ?F (fun _ _ _ _ _ z => z)
    intro w mg fa h Y G hmg0
    obtain ⟨K, KX, c⟩ := Y
    have hmg : mg ("law" : PySem.Str) = some (.ref fa) := by
      have e : (HandSHeadRun.topDef (OpenLaw.row PySem.Challenge.rw_truebeat_k83_whole_formulas_in_fewest_re).prog 119).name = ("law" : PySem.Str) := by kernel_rfl
      rw [← e]
      exact hmg0
    exact ⟨K, KX, K83.law_at KX G c hmg⟩
