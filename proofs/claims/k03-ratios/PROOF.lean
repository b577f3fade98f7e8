import PyProof.Rows.All
import Wide.All
import OpenK.AllK
import Wide.FinOn
import KE.KExcSuper
import HandS.ForMost
import HandS.ForExc
import HandS.ExcInit
import KE.KExcIs
import HandS.ExcValue
import HandS.ExcField
import HandS.IsInst
import HandS.EndBits
import PyProof.ReprRoads
import PyProof.ReprLen
import HandS.Wide
import KE.KOpsOwn
import KE.KCallOwn
import HandS.OwnEq
import HandS.Defaults
import HandS.FStr
import HandS.Small
import HandS.Style
import HandS.TryOnly
import PySem.Challenge.RW_hadnot_k03_ratios
set_option Elab.async false
set_option linter.all false
set_option maxRecDepth 100000
set_option maxHeartbeats 2000000
/-! XS: own exception classes over ValueError or KeyError (also through a class of the program) whose __init__ says super().__init__(text) and stores its parameters. -/
namespace PySem
namespace XS
open PySem.W PySem.Calls PyProof.Rows PySem.HandSPX
abbrev veT : List Value := [.type "ValueError", .type "Exception", .type "BaseException", .type "object"]
abbrev keT : List Value := [.type "KeyError", .type "LookupError", .type "Exception", .type "BaseException", .type "object"]
/-- the built-in below: who makes (Bn), who sets up (B), the classes above -/
structure Bas (Bn newId iN : String) (bmN : List Value) (B initId : String) (bmB : List Value) : Prop where
  nb : ExcBaseFacts Bn newId iN bmN
  hB : bmB.contains (.type Bn) = true
  hA : bmB.contains (.type "AttributeError") = false
  hN : bmB.contains (.type "NameError") = false
  sf : StoreFacts B bmB "object.__setattr__" "object"
  kx : KxsFacts B initId
  ik : builtinKind initId = some .slot
  ir : Manifest.signature? initId = some ⟨.positional, "*", B, .self, [⟨"args", .varPos, false⟩]⟩
  ns : (B != "*") = true
  ipl : plainId initId = true
  ien : entryFor table initId = some Builtin.«BaseException.__init__»
theorem bas_VE : Bas "ValueError" "ValueError.__new__" "ValueError.__init__" veT "ValueError" "ValueError.__init__" veT where
  nb := F.excBase_ValueError
  hB := by decide +kernel
  hA := by decide +kernel
  hN := by decide +kernel
  sf := F.store_ValueError
  kx := kxs_ValueError
  ik := by kernel_rfl
  ir := by kernel_rfl
  ns := by decide +kernel
  ipl := by decide +kernel
  ien := F.excBase_ValueError.initEntry
theorem sto_KE : StoreFacts "KeyError" keT "object.__setattr__" "object" where
  mro := by kernel_rfl
  slot := .of (owner := "object") (n := "__setattr__") (by rw [typeLookup_type, builtinLookup_eq_fast]; kernel_rfl) (by decide +kernel) (by decide +kernel) (by decide +kernel)
    (by first | exact .inl (by decide +kernel) | exact .inr (by decide +kernel)) (by rw [isSubtype_type]; kernel_rfl)
  entry := F.store_ValueError.entry
  kind := by decide +kernel
  split := by decide +kernel
  hasOwner := by decide +kernel
  args := fun a b c => by unfold argsOk; kernel_rfl
  passes := fun self => by kernel_rfl
theorem bas_KE : Bas "LookupError" "LookupError.__new__" "LookupError.__init__" [.type "LookupError", .type "Exception", .type "BaseException", .type "object"] "KeyError" "KeyError.__init__" keT where
  nb := F.excBase_LookupError
  hB := by decide +kernel
  hA := by decide +kernel
  hN := by decide +kernel
  sf := sto_KE
  kx := ⟨by show builtinType _ = _; rw [builtinType_eq_fast]; kernel_rfl, by first | kernel_rfl | rfl⟩
  ik := by kernel_rfl
  ir := by kernel_rfl
  ns := by decide +kernel
  ipl := by decide +kernel
  ien := PyProof.Rows.excClass_KeyError.initEntry

/-! ### making -/
section
variable {prog : Program} {w : World} {M : Model} {A : Around} {E : Value → Shared → Prop} {R : Result → Shared → Prop} {h : Heap} {g : Array GenState} {d : Drawn} {t : Nat} {os : OsState}
variable {nm q : Str} {C N : Addr} {bs bm bmN bmB : List Value} {hdct : Bool} {sn : List Str} {sub : List Value} {ab : Bool} {col : Option Bool} {dd : Option Addr} {k0 k1 k2 k3 k5 : Option Value} {Bn newId iN B initId : String}
theorem chk_new (T : Bas Bn newId iN bmN B initId bmB) (hT : ∀ X : String, bm.contains (.type X) = bmB.contains (.type X)) {rest : List Value} {Q : Unit → Shared → Prop}
    (hC : h.get? C = some (excClassObj nm q C N bs bm hdct sn sub ab col dd k0 k1 k2 k3 k5 newId)) (hq : Q () ⟨h, g, d, t, os⟩) :
    wpAny M A (checkBuiltinCall newId ⟨.ref C :: rest, []⟩) Q E ⟨h, g, d, t, os⟩ := by
  have c0 : (Value.ref C :: bm).contains (.type Bn) = true := by rw [List.contains_cons, hT, T.hB, Bool.or_true]
  have st := T.nb.noStar
  simp only [checkBuiltinCall, T.nb.newKind, T.nb.newSplit, T.nb.newRow]
  repeat (first
    | refine wpAny_loadPart_at hC ?_
    | (refine wpAny_isSubtype_exc hC ?_; rw [c0])
    | refine wpAny_staticBase_exc hC ?_
    | refine wpAny_madeBy_exc hC ?_
    | simp only [bne_self_eq_false, Bool.false_eq_true, if_false]
    | wp_step)
  exact hq
theorem run_new (T : Bas Bn newId iN bmN B initId bmB) (hT : ∀ X : String, bm.contains (.type X) = bmB.contains (.type X)) {rest : List Value}
    (hC : h.get? C = some (excClassObj nm q C N bs bm hdct sn sub ab col dd k0 k1 k2 k3 k5 newId)) (hz : rest.length ≤ sizeLine)
    (hq : R (.ok (.ret (.ref (h.objs.size + 1)))) ⟨(h.push (kdv_tup rest)).push (excO C h.objs.size), g, d, t, os⟩) :
    codeAny (model prog w) A (.builtin newId ⟨.ref C :: rest, []⟩) R ⟨h, g, d, t, os⟩ := by
  have en := T.nb.ends
  have cB : (Value.ref C :: bm).contains (.type Bn) = true := by rw [List.contains_cons, hT, T.hB, Bool.or_true]
  have cA : (Value.ref C :: bm).contains (.type "AttributeError") = false := by rw [List.contains_cons, hT, T.hA]; rfl
  have cN : (Value.ref C :: bm).contains (.type "NameError") = false := by rw [List.contains_cons, hT, T.hN]; rfl
  refine codeAny_builtinAt T.nb.entry ?_
  unfold Builtin.«BaseException.__new__»
  refine wpAt_bind ?_
  show wpAt _ _ _ (stack >>= _) _ _ _
  refine wpAt_bind (wpAt_stack fun p below => wpAt_of_wpAny ?_)
  wp_walk
  refine wpAt_of_wpAny ?_
  rw [T.nb.owner]
  repeat (first
    | with_reducible refine wpAny_madeHere_exc T.nb.canon hC ?_
    | with_reducible refine wpAny_loadPart_at hC ?_
    | (with_reducible refine wpAny_isSubtype_exc hC ?_; first | rw [cB] | rw [cA] | rw [cN])
    | wp_step)
  show R _ _
  rw [Heap.size_push]
  exact hq
theorem run_type (T : Bas Bn newId iN bmN B initId bmB) (hT : ∀ X : String, bm.contains (.type X) = bmB.contains (.type X)) {rest : List Value} {fI : Addr} {Q : Fin → Shared → Prop}
    (hC : h.get? C = some (excClassObj nm q C N bs bm hdct sn sub ab col dd k0 k1 k2 k3 k5 newId))
    (hi : W.Looks (model prog w) h (typeLookup (.ref C) "__init__") (some (.ref fI))) (hb : ∀ self, W.Looks (model prog w) h (bindSpecial (.ref fI) self) (.ref fI, [self])) (hz : rest.length ≤ sizeLine)
    (hq : codeAny (model prog w) A (.call (.ref fI) ⟨.ref (h.objs.size + 1) :: rest, []⟩)
      (fun r s' => match r with | .ok (.ret v) => v = .none ∧ Q (.done (.ret (.ref (h.objs.size + 1)))) s' | .ok _ => False | .error e => E e s')
      ⟨(h.push (kdv_tup rest)).push (excO C h.objs.size), g, d, t, os⟩) :
    wpAny (model prog w) A (Builtin.«type.__call__» ⟨.ref C :: rest, []⟩) Q E ⟨h, g, d, t, os⟩ := by
  have cC : (Value.ref C :: bm).contains (.ref C) = true := by simp
  have up : ∀ b o, h.get? b = some o → ((h.push (kdv_tup rest)).push (excO C h.objs.size)).get? b = some o := fun b o e => Heap.get?_push_of_some _ (Heap.get?_push_of_some _ e)
  have hC' := up _ _ hC
  have he : ((h.push (kdv_tup rest)).push (excO C h.objs.size)).get? (h.objs.size + 1) = some (excO C h.objs.size) := by heap_get
  have i1 := hi.keeps up
  have b1 := (hb (.ref (h.objs.size + 1))).keeps up
  repeat (first | with_reducible refine wpAny_loadPart_at hC ?_ | with_reducible refine wpAny_madeBy_exc hC ?_ | wp_step)
  refine codeAny_call_builtin_code (Code.quiet_builtin _ T.nb.quiet) (chk_new T hT hC (run_new T hT hC hz ?_))
  show wpAny _ _ _ _ _ _
  unfold isInstance
  repeat (first | with_reducible refine wpAny_loadPart_at he ?_ | (with_reducible refine wpAny_isSubtype_exc hC' ?_; rw [cC]) | wp_step)
  show wpAny _ _ (typeLookup (.ref C) _) _ _ _
  refine i1.at (wpAny_holding (wpAny_bind (b1.at ?_)))
  refine wpAny_bind (wpAny_call (codeAny_mono hq fun r s' z => ?_))
  rcases r with e | (v | _ | _ | _) <;> first | exact z | exact z.elim | skip
  obtain ⟨rfl, z⟩ := z
  first
    | exact wpAny_pure (wpAny_pure z)
    | (wp_walk; exact z)
theorem run_call (T : Bas Bn newId iN bmN B initId bmB) (hT : ∀ X : String, bm.contains (.type X) = bmB.contains (.type X)) {rest : List Value} {fI : Addr}
    (hC : h.get? C = some (excClassObj nm q C N bs bm hdct sn sub ab col dd k0 k1 k2 k3 k5 newId))
    (hi : W.Looks (model prog w) h (typeLookup (.ref C) "__init__") (some (.ref fI))) (hb : ∀ self, W.Looks (model prog w) h (bindSpecial (.ref fI) self) (.ref fI, [self])) (hz : rest.length ≤ sizeLine)
    (hq : codeAny (model prog w) (A.under (.builtin "type.__call__" ⟨.ref C :: rest, []⟩)) (.call (.ref fI) ⟨.ref (h.objs.size + 1) :: rest, []⟩) (W.InitBack (h.objs.size + 1) R)
      ⟨(h.push (kdv_tup rest)).push (excO C h.objs.size), g, d, t, os⟩) :
    codeAny (model prog w) A (.call (.ref C) ⟨rest, []⟩) R ⟨h, g, d, t, os⟩ := by
  have f1 := tc_lookup
  have f2 := tc_bind (.ref C)
  have ty : (⟨h, g, d, t, os⟩ : Shared).TypeIs (.ref C) "type" := ⟨_, hC, rfl⟩
  refine codeAny_of_tree ?_
  show wpAny _ _ (callAny (.ref C) _) _ _ _
  repeat (any_goals (first | assumption | with_reducible refine wpAny_loadPart_at hC ?_ | wp_step))
  refine ⟨rfl, codeAny_call_builtin_at (Code.quiet_builtin _ (by decide +kernel)) entry_typeCall (wpAny_check_type_call_sub hC (run_type T hT hC hi hb hz (codeAny_mono hq fun r s' z => ?_)))⟩
  rcases r with e | (v | _ | _ | _) <;> exact z

/-! ### super().__init__(text): the wrapper called -/
theorem chk_bound (T : Bas Bn newId iN bmN B initId bmB) {e : Addr} {oe : Obj} {rest : List Value} {Q : Unit → Shared → Prop}
    (hC : h.get? C = some (excClassObj nm q C N bs bm hdct sn sub ab col dd k0 k1 k2 k3 k5 newId)) (he : h.get? e = some oe) (hcls : oe.cls = .ref C) (hq : Q () ⟨h, g, d, t, os⟩) :
    wpAny M A (checkBoundCall initId ⟨.ref e :: rest, []⟩) Q E ⟨h, g, d, t, os⟩ := by
  have st := T.ns
  simp only [checkBoundCall, T.ik, T.ir]
  repeat (first | (with_reducible refine wpAny_loadPart_at he ?_; rw [hcls]) | with_reducible refine wpAny_loadPart_at hC ?_ | wp_step)
  refine wpAny_onRaise ?_
  have c : ∀ (a b : String) (n : Nat), Bind.check ⟨.positional, "*", B, .self, [⟨"args", .varPos, false⟩]⟩ a b n (List.map (fun x => x.fst) ({ pos := Value.ref e :: rest } : Args).kw) = pure () := fun a b n => check_star_args _ _ _ _ _ _
  rw [c]
  exact wpAny_pure hq
theorem call_mw (T : Bas Bn newId iN bmN B initId bmB) {u e t0 : Addr} {rest : List Value} {Q : Value → Shared → Prop}
    (hC : h.get? C = some (excClassObj nm q C N bs bm hdct sn sub ab col dd k0 k1 k2 k3 k5 newId)) (he : h.get? e = some (excO C t0)) (hu : h.get? u = some (kxs_mw initId e)) (hz : rest.length ≤ sizeLine)
    (hq : ∀ h', (∀ b o, b ≠ e → h.get? b = some o → h'.get? b = some o) → h'.get? e = some (excO C h.objs.size) → Q .none ⟨h', g, d, t, os⟩) :
    wpAny (model prog w) A (call (.ref u) rest) Q E ⟨h, g, d, t, os⟩ := by
  refine wpAny_call (codeAny_of_tree ?_)
  show wpAny _ A.in1 (callAny (.ref u) ⟨rest, []⟩) _ _ _
  simp only [callAny]
  refine wpAny_bind (wpAny_load hu ?_)
  simp only [kxs_mw, show (Value.type "method-wrapper" == Value.type "method" || Value.type "method-wrapper" == Value.type "builtin_function_or_method" || Value.type "method-wrapper" == Value.type "method-wrapper") = true by decide, if_true]
  refine KFB.if_so (by decide) ?_
  refine wpAny_bind (chk_bound T hC he rfl (wpAny_bind (wpAny_pure (wpAny_pure ⟨plainId_quiet T.ipl _, codeAny_builtin T.ien ?_⟩))))
  exact exc_init_tree (cls := .ref C) (t0 := t0) (dv := none) (c2 := .none) (c3 := .none) (b4 := .bool false) he hz fun h' k e' _ => hq h' k e'
end
end XS
end PySem

set_option Elab.async false
set_option linter.all false
set_option maxRecDepth 100000
set_option maxHeartbeats 2000000
namespace PySem
namespace XS
open PySem.W PySem.Calls PyProof.Rows PySem.HandSPX
/-- what the written part says of the class at C and of its __init__ at fI -/
structure Own (prog : Program) (K : Frag) (C fI cc cda : Addr) (newId B initId : String) (bmB : List Value) (qual : Str) (params : Arguments) (body : List Stmt) (scope : Scope) : Prop where
  q : excInitIn K C bmB newId = true
  ov : excOver K C bmB = true
  hd : hasDictIn K C = true
  sa : findIn K (.ref C) "__setattr__" = some (some (.builtin "object.__setattr__"))
  iC : findIn K (.ref C) "__init__" = some (some (.ref fI))
  tI : isFn K (.ref fI) = true
  kC : keepIn K (.ref C) = true
  su : ks_superIn K C C "__init__" = some (some (.builtin initId))
  mC : mroIn K C (.ref C) = some true
  sB : subIn K (.ref C) (.type B) = some true
  th : nsIn K cStatics "thirdparty.any" = some none
  cell : ∃ cl cld csl, K.lookup cc = some ⟨cl, cld, .cell (some (.ref C)), csl⟩
  code : ∃ ccl cdd vs ccs file tf, K.lookup cda = some ⟨ccl, cdd, .fields vs, ccs⟩ ∧ vs[2]? = some (.str file tf) ∧ ((prog.main.file : Str) == file) = true
  top : (prog.main.scope.names.lookup ("super" : Str)).isSome = false
  fn : ∃ oc od osl doc pm an ct, K.lookup fI = some ⟨oc, od, .func (ksFn "__init__" qual params body scope .none .none doc pm an (.ref cda) ct cc), osl⟩ ∧ codeIn K (.ref cda) qual = true
/-- the scope of such an __init__ -/
structure ScI (params : Arguments) (scope : Scope) : Prop where
  hp : ∃ ar, (params.posonlyargs ++ params.args).head? = some ar ∧ ar.arg = "self"
  ks : scope.names.lookup ("super" : Str) = some .globalImplicit
  kc : scope.names.lookup ("__class__" : Str) = some .free
  ka : scope.names.lookup ("self" : Str) = some .local
  kd : scope.kind = .function
  nc : ∀ x ∈ scope.names, x.2 ≠ .cell
  co : scope.isCoroutine = false
  ge : scope.isGenerator = false
theorem quiet_of {env : Env} (h : env.scope.kind = .function) : interactive env = false := by simp [interactive, h]
section
variable {prog : Program} {w : World} {A : Around} {E : Value → Shared → Prop} {R : Result → Shared → Prop} {s : Shared} {K : Frag} {mg mb : Str → Option Value} {C fI cc cda : Addr} {Bn newId iN B initId : String} {bmN bmB : List Value} {qual : Str} {params : Arguments} {rest : List Stmt} {scope : Scope}
theorem init_run (T : Bas Bn newId iN bmN B initId bmB) {p0 p1 p2 p3 p4 p5 : Pos} {txt : Str} {j : Nat}
    (Z : Own prog K C fI cc cda newId B initId bmB qual params (.Expr (.Call (.Attribute (.Call (.Name "super" p0) [] [] p1) "__init__" p2) [.Constant (.str txt) j p3] [] p4) p5 :: rest) scope) (S : ScI params scope)
    {x t0 : Addr} {args : List Value} {binds : List (Str × Value)} (X : K.In s.heap) (hlim : s.heap.NoLimit) (G : s.heap.Ns mainGlobals mg) (gs : mg "super" = none) (Bl : s.heap.Ns builtinsNs mb) (bs : mb "super" = some (.type "super"))
    (hx : s.heap.get? x = some (excO C t0)) (hnx : K.lookup x = none) (hroom : A.depth < recursionLimit)
    (hbind : ∀ doc pm an ct, BindsTo s (ksFn "__init__" qual params (.Expr (.Call (.Attribute (.Call (.Name "super" p0) [] [] p1) "__init__" p2) [.Constant (.str txt) j p3] [] p4) p5 :: rest) scope .none .none doc pm an (.ref cda) ct cc) ⟨.ref x :: args, []⟩ binds)
    (hloc : ∀ y ∈ binds, scope.names.lookup y.1 = some .local) (hself : binds.reverse.lookup ("self" : Str) = some (Value.ref x))
    (hev : ∀ L, ∃ pl : Sem Bool, eval (.Call (.Attribute (.Call (.Name "super" p0) [] [] p1) "__init__" p2) [.Constant (.str txt) j p3] [] p4) (ksEnv qual scope L fI (.ref cda) cc) = (do
      let ov ← attributeBase (.Call (.Name "super" p0) [] [] p1) "__init__" (ksEnv qual scope L fI (.ref cda) cc) (eval (.Call (.Name "super" p0) [] [] p1) (ksEnv qual scope L fI (.ref cda) cc))
      standAt p2.atName
      let (f, first) ← holding [ov] (getMethod ov "__init__" pl)
      callWith p4 f first (backTo p4 (starEach [.Constant (.str txt) j p3] (ksEnv qual scope L fI (.ref cda) cc))) []))
    (hq : ∀ h₁ tk₁ t1, h₁.Ns s.heap.objs.size (fun y => binds.reverse.lookup y) → (∀ b o, b ≠ x → s.heap.get? b = some o → h₁.get? b = some o) → h₁.get? x = some (excO C t1) →
      wpAny (model prog w) (A.deeper (ksEnv qual scope s.heap.objs.size fI (.ref cda) cc)) (execs rest (ksEnv qual scope s.heap.objs.size fI (.ref cda) cc)) (fun fl s' => R (.ok (.ret (match fl with | .ret v => v | _ => .none))) s')
        (fun e s' => wpAny (model prog w) (A.deeper (ksEnv qual scope s.heap.objs.size fI (.ref cda) cc)) (leaving (ksEnv qual scope s.heap.objs.size fI (.ref cda) cc) e) (fun _ s'' => R (.error e) s'') (fun e' s'' => R (.error e') s'') s')
        { s with heap := h₁, toks := tk₁ }) :
    codeAny (model prog w) A (.call (.ref fI) ⟨.ref x :: args, []⟩) R s := by
  obtain ⟨oc, od, osl, doc, pm, an, ct, ho, hcd⟩ := Z.fn
  obtain ⟨ar, hp, ear⟩ := S.hp
  obtain ⟨pl, hev⟩ := hev s.heap.objs.size
  refine ks_codeAny_call_defAt (binds := binds) hroom (X _ _ ho) rfl hlim (codeRec_of X hcd) rfl (hbind doc pm an ct) S.nc hloc (fun h₀ hns hk => ?_) S.co S.ge S.kd
  have X0 : K.In h₀ := X.keeps hk
  have hx0 := hk _ _ hx
  have hL : s.heap.objs.size ≠ x := Nat.ne_of_gt (Heap.lt_size hx)
  have G0 := G.keeps hk
  have B0 := Bl.keeps hk
  obtain ⟨cl, cld, csl, hcell⟩ := Z.cell
  obtain ⟨ccl, cdd, vs, ccs, file, tf, hcode, hvs, hfile⟩ := Z.code
  obtain ⟨cdC, hcC⟩ : ∃ cd, clsIn K C = some cd := by
    obtain ⟨cd, hc, _⟩ := any_some Z.hd
    exact ⟨cd, hc⟩
  obtain ⟨oC, hC1, hC2⟩ : ∃ oC, h₀.get? C = some oC ∧ oC.data = .cls cdC := by
    have hc := hcC
    unfold clsIn at hc
    split at hc
    · rename_i c d cd' sl ho
      cases hc
      exact ⟨_, X0 _ _ ho, rfl⟩
    · cases hc
  have I0 : InstAt h₀ x (excO C t0) C none := ⟨hx0, rfl, rfl, trivial⟩
  have hkA : scope.names.lookup ar.arg = some .local := by rw [ear]; exact S.ka
  refine ks_wpAt_execs_cons (ks_wpAt_Expr_any (ks_wpAt_MethodCall (pl := pl) ?_ hev) (quiet_of S.kd) (by first | rfl | exact rfl))
  refine ks_wpAt_super_base (f := fI) (cc := cda) (ar := ar) S.ks S.kc (by decide) rfl (X0 _ _ ho) rfl hp rfl (X0 _ _ hcode) rfl hvs hfile Z.top ?_
  refine ks_loadName_global S.kd S.ks (loadGlobal_builtin G0 gs B0 bs ⟨rfl, ?_⟩)
  refine wpAny_loadName_free S.kd S.kc rfl ⟨_, X0 _ _ hcell, rfl⟩ ?_
  refine wpAny_loadName_local S.kd hkA hns (v := .ref x) (by show binds.reverse.lookup ar.arg = _; rw [ear]; exact hself) ?_
  refine ks_wpAny_isType_cls hC1 hC2 ⟨rfl, ?_⟩
  refine ks_wpAny_call_super hC1 hC2 hx0 rfl (fun c e => by cases e) (looks_mroIn X0 Z.mC) (fun h₁ hso k₁ => ?_)
  have X1 : K.In h₁ := X0.keeps k₁
  have hx1 := k₁ _ _ hx0
  have I1 : InstAt h₁ x (excO C t0) C none := ⟨hx1, rfl, rfl, trivial⟩
  have hsu := Z.su
  unfold ks_superIn at hsu
  rw [hcC] at hsu
  refine kxs_getMethod T.kx hso (looks_opaque X1 Z.th) (l₀ := cdC.mro) (fun A Q E s k q => wpAny_bind ((looks_clsIn X1 hcC) A _ E s k (wpAny_pure q))) rfl X1 hsu (I1.type.andThen (looks_subIn X1 Z.sB)) (ks_ne X1 I1 hcC) (by decide) ?_
  have k₂ : ∀ b o, h₁.get? b = some o → (h₁.push (kxs_mw initId x)).get? b = some o := fun b o e => Heap.get?_push_of_some _ e
  have hu : (h₁.push (kxs_mw initId x)).get? h₁.objs.size = some (kxs_mw initId x) := Heap.get?_push_at rfl rfl
  refine kxs_callWith (i := initId) (x := x) (by rfl) (evalArgs_plain (Calls.spliced_cons (Calls.Constant_str (k := j) (pos := p3) (Calls.spliced_nil ⟨hu, ?_⟩))))
  obtain ⟨nm, N, qn, bs', bm, hdct, sn, sub, ab, col, dd, k0, k1, k2, k3, k5, hCo, hT⟩ := excInit_of (X1.keeps k₂) Z.q
  refine call_mw T hCo (k₂ _ _ hx1) hu (by show 1 ≤ sizeLine; rw [sizeLine_eq]; omega) fun h₃ k₃ hx3 => ?_
  refine wpAt_of_wpAny (hq h₃ _ _ ?_ (fun b o hb e => k₃ b o hb (k₂ _ _ (k₁ _ _ (hk b o e)))) hx3)
  obtain ⟨oL, es, ep, e1, e2⟩ := hns
  exact ⟨oL, es, ep, k₃ _ _ hL (k₂ _ _ (k₁ _ _ e1)), e2⟩
end
end XS
end PySem

set_option Elab.async false
set_option linter.all false
set_option maxRecDepth 100000
set_option maxHeartbeats 2000000
namespace PySem
namespace XS
open PySem.W PySem.Calls PyProof.Rows PySem.HandSPX
open Builtin Builtin.ObjectAttr
abbrev xo (C t1 : Addr) (d : Option Addr) : Obj := { cls := .ref C, dict := d, data := .fields #[.ref t1, .none, .none, .none, .bool false, .none] }
section
variable {prog : Program} {w : World} {A : Around} {E : Value → Shared → Prop} {s : Shared} {K : Frag} {C x t1 : Addr} {B : String} {bmB : List Value} {name : Str} {v : Value}
/-- self.name = v: the first one lays the object's dict -/
theorem put1 {Q : Unit → Shared → Prop} (SF : StoreFacts B bmB "object.__setattr__" "object") (X : K.In s.heap) (hx : s.heap.get? x = some (xo C t1 none)) (ov : excOver K C bmB = true) (hd : hasDictIn K C = true)
    (sa : findIn K (.ref C) "__setattr__" = some (some (.builtin "object.__setattr__"))) (ha : findIn K (.ref C) name = some none)
    (hq : ∀ h' tk' dx, (∀ b o, b ≠ x → s.heap.get? b = some o → h'.get? b = some o) → s.heap.objs.size ≤ dx → dx ≠ x → h'.get? x = some (xo C t1 (some dx)) →
      h'.Ns1 dx (fun y => if y = name then some v else none) → Q () { s with heap := h', toks := tk' }) :
    wpAny (model prog w) A (setAttr (.ref x) name v) Q E s := by
  have I : InstAt s.heap x (xo C t1 none) C none := ⟨hx, rfl, rfl, trivial⟩
  have nx : x ≠ s.heap.objs.size := Nat.ne_of_lt (Heap.lt_size hx)
  have ht : takerIn K C name = some none := by unfold takerIn; rw [ha]; rfl
  obtain ⟨cd, hc, hh⟩ := any_some hd
  refine set_plain X I sa (osa_openX SF (s := { s with toks := s.toks + 1 }) X I ov ht fun b => ?_)
  obtain ⟨hp, g, d, t, os⟩ := s
  have hcls : Looks (model prog w) hp (classData C) cd := looks_clsIn X hc
  obtain ⟨nm, bs, mro, ns, qn, hdc, sn, sb, ab, col, del⟩ := cd
  dsimp only at hh
  subst hh
  have hx' : hp.get? x = some (xo C t1 none) := hx
  show wpAny _ _ (storeInOwnDict _ _ _ _ _ _) _ _ ⟨hp, g, d, t + 1, os⟩
  unfold storeInOwnDict ownDictForStores
  repeat (first | with_reducible refine HandSPX.store_in_new ?_ ?_ | with_reducible refine wpAny_loadPart_at hx' ?_ | with_reducible refine hcls.at ?_ | wp_step)
  · exact ⟨_, #[], _, (Heap.get?_update_ne _ _ _ _ nx.symm).trans (Heap.get?_push_at rfl rfl), rfl, fun e he => absurd he (by simp), fun _ => rfl⟩
  · intro h' tk' hn' hs
    have hx₁ : (hp.push { cls := .type "dict", data := .dict #[] }).get? x = some (xo C t1 none) := Heap.get?_push_of_some _ hx'
    refine hq h' tk' hp.objs.size (fun b o hb ho => ?_) (Nat.le_refl _) nx.symm ?_ hn'
    · exact (hs.2 b (Nat.ne_of_lt (Heap.lt_size ho))).trans ((Heap.get?_update_ne _ _ _ _ hb).trans (Heap.get?_push_of_some _ ho))
    · exact (hs.2 x nx).trans (Heap.get?_update_self _ hx₁ rfl)
/-- a later one fills it -/
theorem put2 {Q : Unit → Shared → Prop} {dx : Addr} {m0 : Str → Option Value} {nl : List Str} (SF : StoreFacts B bmB "object.__setattr__" "object") (X : K.In s.heap) (hx : s.heap.get? x = some (xo C t1 (some dx))) (hns : s.heap.Ns1 dx m0) (hw : Within m0 nl) (hz : nl.length ≤ 1000)
    (ov : excOver K C bmB = true) (hd : hasDictIn K C = true)
    (sa : findIn K (.ref C) "__setattr__" = some (some (.builtin "object.__setattr__"))) (ha : findIn K (.ref C) name = some none)
    (hq : ∀ h' tk', (∀ b o, b ≠ dx → s.heap.get? b = some o → h'.get? b = some o) → h'.Ns1 dx (fun y => if y = name then some v else m0 y) → Q () { s with heap := h', toks := tk' }) :
    wpAny (model prog w) A (setAttr (.ref x) name v) Q E s := by
  obtain ⟨oD, esD, epD, hoD, hdD, _⟩ := hns.count hw
  have I : InstAt s.heap x (xo C t1 (some dx)) C (some oD) := ⟨hx, rfl, rfl, hoD⟩
  have ht : takerIn K C name = some none := by unfold takerIn; rw [ha]; rfl
  obtain ⟨cd, hc, hh⟩ := any_some hd
  refine set_plain X I sa (osa_openX SF (s := { s with toks := s.toks + 1 }) X I ov ht fun b => ?_)
  obtain ⟨hp, g, d, t, os⟩ := s
  have hcls : Looks (model prog w) hp (classData C) cd := looks_clsIn X hc
  obtain ⟨nm, bs, mro, ns, qn, hdc, sn, sb, ab, col, del⟩ := cd
  dsimp only at hh
  subst hh
  have hx' : hp.get? x = some (xo C t1 (some dx)) := hx
  have hns' : hp.Ns1 dx m0 := hns
  show wpAny _ _ (storeInOwnDict _ _ _ _ _ _) _ _ ⟨hp, g, d, t + 1, os⟩
  unfold storeInOwnDict ownDictForStores
  repeat (first | with_reducible refine OEX.store_in_old hns' hw hz ?_ | with_reducible refine wpAny_loadPart_at hx' ?_ | with_reducible refine hcls.at ?_ | wp_step)
  intro h' tk' hn' hs
  exact hq h' tk' (fun b o hb ho => (hs.2 b hb).trans ho) hn'
end

/-- an exception made: at e, of the class at C, with the fields fs -/
structure Made (h h' : Heap) (e C : Addr) (dv : Option Addr) (fs : List (Str × Value)) : Prop where
  keep : ∀ b o, h.get? b = some o → h'.get? b = some o
  new : h.objs.size ≤ e
  obj : ∃ t1, h'.get? e = some (xo C t1 dv)
  none_ : dv = none → fs = []
  some_ : ∀ d, dv = some d → h.objs.size ≤ d ∧ d ≠ e ∧ ∃ mA, h'.Ns1 d mA ∧ ∀ y, mA y = fs.lookup y

/-! ### the texts of __init__ -/
abbrev aSelf (p : Pos) : Arg := { arg := "self", annotation := none, pos := p }
abbrev aPar (n : Str) (p : Pos) : Arg := { arg := n, annotation := none, pos := p }
abbrev iArgs (l : List Arg) : Arguments := { posonlyargs := [], args := l, vararg := none, kwonlyargs := [], kw_defaults := [], kwarg := none, defaults := [] }
abbrev iSup (txt : Str) (j : Nat) (p0 p1 p2 p3 p4 p5 : Pos) : Stmt := .Expr (.Call (.Attribute (.Call (.Name "super" p0) [] [] p1) "__init__" p2) [.Constant (.str txt) j p3] [] p4) p5
abbrev iPut (f : Str) (q1 q2 q3 q4 : Pos) : Stmt := .Assign [.Attribute (.Name "self" q1) f q2] (.Name f q3) q4
abbrev iSc (l : List Str) : Scope := { kind := .function, names := (("self" : Str), NameKind.local) :: (l.map fun x => (x, NameKind.local)) ++ [(("__class__" : Str), NameKind.free), (("super" : Str), NameKind.globalImplicit)], isGenerator := false, isCoroutine := false, more := [] }
theorem sc_ok (l : List Str) (a0 : Pos) (as : List Arg) (h1 : ∀ x ∈ l, x ≠ ("super" : Str)) (h2 : ∀ x ∈ l, x ≠ ("__class__" : Str)) : ScI (iArgs (aSelf a0 :: as)) (iSc l) := by
  have lk : ∀ (y : Str) (k : NameKind), y ≠ ("self" : Str) → (∀ x ∈ l, x ≠ y) → [(("__class__" : Str), NameKind.free), (("super" : Str), NameKind.globalImplicit)].lookup y = some k → (iSc l).names.lookup y = some k := by
    intro y k h0 h h3
    show List.lookup y ((("self" : Str), NameKind.local) :: ((l.map fun x => (x, NameKind.local)) ++ [(("__class__" : Str), NameKind.free), (("super" : Str), NameKind.globalImplicit)])) = some k
    rw [List.lookup_cons, (by simpa using h0 : (y == ("self" : Str)) = false)]
    induction l with
    | nil => exact h3
    | cons a r ih =>
      have e : (y == a) = false := by simpa using fun z : y = a => h a (by simp) z.symm
      simp only [List.map_cons, List.cons_append]
      rw [List.lookup_cons, e]
      exact ih (fun x hx => h1 x (by simp [hx])) (fun x hx => h2 x (by simp [hx])) fun x hx => h x (by simp [hx])
  refine ⟨⟨aSelf a0, rfl, rfl⟩, lk _ _ (by decide) h1 (by decide), lk _ _ (by decide) h2 (by decide), rfl, rfl, fun x hx => ?_, rfl, rfl⟩
  simp only [List.cons_append, List.mem_cons, List.mem_append, List.mem_map, List.not_mem_nil, or_false] at hx
  rcases hx with rfl | ⟨y, _, rfl⟩ | rfl | rfl <;> exact fun z => nomatch z
theorem ev_sup {env : Env} {txt : Str} {j : Nat} {p0 p1 p2 p3 p4 : Pos} (hp : (p2.endLine == p4.line) = true) :
    eval (.Call (.Attribute (.Call (.Name "super" p0) [] [] p1) "__init__" p2) [.Constant (.str txt) j p3] [] p4) env = (do
      let ov ← attributeBase (.Call (.Name "super" p0) [] [] p1) "__init__" env (eval (.Call (.Name "super" p0) [] [] p1) env)
      standAt p2.atName
      let (f, first) ← holding [ov] (getMethod ov "__init__" (do return (← importBound (.Call (.Name "super" p0) [] [] p1) env).getD true))
      callWith p4 f first (backTo p4 (starEach [.Constant (.str txt) j p3] env)) []) := by
  show (do
      let ov ← attributeBase (.Call (.Name "super" p0) [] [] p1) "__init__" env (eval (.Call (.Name "super" p0) [] [] p1) env)
      standAt p2.atName
      methodCall (.Call (.Name "super" p0) [] [] p1) "__init__" p2 p4 env ov (([.Constant (.str txt) j p3] : List Expr).length + ([] : List Keyword).length) (backTo p4 (starEach [.Constant (.str txt) j p3] env)) (backToKw p4 (keywordEach [] env))) = _
  have e : methodCallForm (([.Constant (.str txt) j p3] : List Expr).length + ([] : List Keyword).length) (backTo p4 (starEach [.Constant (.str txt) j p3] env)) (backToKw p4 (keywordEach [] env)) = true := rfl
  simp only [methodCall, e, calleeOf, methodCallPos, hp, if_true, Bool.not_true, Bool.false_or, pure_bind]
  rfl
section
variable {prog : Program} {w : World} {A : Around} {E : Value → Shared → Prop} {R : Result → Shared → Prop} {s : Shared} {K : Frag} {mg mb : Str → Option Value} {C fI cc cda : Addr} {Bn newId iN B initId : String} {bmN bmB : List Value} {qual : Str}
variable {txt : Str} {j : Nat} {a0 a1 a2 p0 p1 p2 p3 p4 p5 q1 q2 q3 q4 r1 r2 r3 r4 : Pos}
/-- the class called: the object and its args are laid, then __init__ -/
theorem enter (T : Bas Bn newId iN bmN B initId bmB) {params : Arguments} {body : List Stmt} {scope : Scope} (Z : Own prog K C fI cc cda newId B initId bmB qual params body scope) {rest : List Value} (X : K.In s.heap) (hz : rest.length ≤ sizeLine)
    (hq : ∀ h1, (∀ b o, s.heap.get? b = some o → h1.get? b = some o) → h1.get? (s.heap.objs.size + 1) = some (excO C s.heap.objs.size) → K.lookup (s.heap.objs.size + 1) = none → h1.objs.size = s.heap.objs.size + 2 →
      codeAny (model prog w) (A.under (.builtin "type.__call__" ⟨.ref C :: rest, []⟩)) (.call (.ref fI) ⟨.ref (s.heap.objs.size + 1) :: rest, []⟩) (InitBack (s.heap.objs.size + 1) R) { s with heap := h1 }) :
    codeAny (model prog w) A (.call (.ref C) ⟨rest, []⟩) R s := by
  obtain ⟨nm, N', qn, bs, bm, hdct, sn, sub, ab, col, dd, k0, k1, k2, k3, k5, hC, hT⟩ := excInit_of X Z.q
  obtain ⟨oI, hoI, hcI⟩ : ∃ oI, s.heap.get? fI = some oI ∧ oI.cls = .type "function" := by
    obtain ⟨o, ho, hc⟩ := Option.map_eq_some_iff.mp (show (K.lookup fI).map (·.cls) = some (.type "function") from beq_iff_eq.mp Z.tI)
    exact ⟨o, X _ _ ho, hc⟩
  have hi : Looks (model prog w) s.heap (typeLookup (.ref C) "__init__") (some (.ref fI)) := looks_findIn X Z.iC
  have hnx : K.lookup (s.heap.objs.size + 1) = none := by
    cases e : K.lookup (s.heap.objs.size + 1) with
    | none => rfl
    | some o => exact absurd (Nat.lt_of_succ_lt (Heap.lt_size (X _ _ e))) (Nat.lt_irrefl _)
  obtain ⟨hp, g, d, tk, os⟩ := s
  refine run_call T hT hC hi (fun self => exc_bind hoI hcI self) hz (hq _ (fun b o e => Heap.get?_push_of_some _ (Heap.get?_push_of_some _ e)) (by show ((hp.push (kdv_tup rest)).push (excO C hp.objs.size)).get? (hp.objs.size + 1) = _; heap_get) hnx ?_)
  show ((hp.push (kdv_tup rest)).push (excO C hp.objs.size)).objs.size = hp.objs.size + 2
  rw [Heap.size_push, Heap.size_push]
theorem made0 (T : Bas Bn newId iN bmN B initId bmB) (Z : Own prog K C fI cc cda newId B initId bmB qual (iArgs [aSelf a0]) [iSup txt j p0 p1 p2 p3 p4 p5] (iSc []))
    (X : K.In s.heap) (hlim : s.heap.NoLimit) (G : s.heap.Ns mainGlobals mg) (gs : mg "super" = none) (Bl : s.heap.Ns builtinsNs mb) (bs : mb "super" = some (.type "super")) (hroom : A.depth + 1 < recursionLimit) (hp : (p2.endLine == p4.line) = true)
    (hq : ∀ h' tk e, Made s.heap h' e C none [] → R (.ok (.ret (.ref e))) { s with heap := h', toks := tk }) :
    codeAny (model prog w) A (.call (.ref C) ⟨[], []⟩) R s := by
  refine enter T Z X (Nat.zero_le _) fun h1 k1 he hnx hsz => ?_
  refine init_run T Z (sc_ok [] a0 [] (by simp) (by simp)) (binds := [("self", .ref (s.heap.objs.size + 1))]) (s := { s with heap := h1 }) (X.keeps k1) (hlim.keeps k1) (G.keeps k1) gs (Bl.keeps k1) bs he hnx (show A.depth + 1 < recursionLimit from hroom)
    (fun _ _ _ _ => BindsTo.of_eq (by first | rfl | with_unfolding_all rfl)) (by simp) rfl (fun L => ⟨_, ev_sup hp⟩) fun h2 tk2 t1 hns k2 he2 => ?_
  refine wpAny_execs_nil ⟨rfl, hq h2 _ _ ⟨fun b o e => k2 b o (Nat.ne_of_lt (Nat.lt_succ_of_lt (Heap.lt_size e))) (k1 b o e), Nat.le_succ _, ⟨t1, he2⟩, fun _ => rfl, fun d z => nomatch z⟩⟩
theorem lds {M : Model} {env : Env} {m : Str → Option Value} {x : Str} {pos : Pos} {v : Value} {Q : Value → Shared → Prop} (hk : env.scope.kind = .function) (hl : env.kindOf x = some .local) (hn : s.heap.Ns env.locals m) (hv : m x = some v) (hd : (x == ("__debug__" : Str)) = false) (h : Q v s) :
    wpAny M A (eval (.Name x pos) env) Q E s := wpAny_Name (wpAny_loadName_local hk hl hn hv h) hd
/-- how the parameters are bound (at written names: by rfl) -/
def Bd (qual : Str) (params : Arguments) (body : List Stmt) (scope : Scope) (fs : List Str) : Prop := ∀ (s : Shared) (cda cc : Addr) (vs : List Value) (doc pm : Value) (an : Option Addr) (ct : Value), vs.length = fs.length + 1 →
  BindsTo s (ksFn "__init__" qual params body scope .none .none doc pm an (.ref cda) ct cc) ⟨vs, []⟩ ((("self" : Str) :: fs).zip vs)
theorem made1 {f : Str} {v : Value} (T : Bas Bn newId iN bmN B initId bmB) (Z : Own prog K C fI cc cda newId B initId bmB qual (iArgs [aSelf a0, aPar f a1]) [iSup txt j p0 p1 p2 p3 p4 p5, iPut f q1 q2 q3 q4] (iSc [f]))
    (X : K.In s.heap) (hlim : s.heap.NoLimit) (G : s.heap.Ns mainGlobals mg) (gs : mg "super" = none) (Bl : s.heap.Ns builtinsNs mb) (bs : mb "super" = some (.type "super")) (hroom : A.depth + 1 < recursionLimit) (hp : (p2.endLine == p4.line) = true)
    (f1 : f ≠ "self") (f2 : f ≠ "super") (f3 : f ≠ "__class__") (f4 : (f == ("__debug__" : Str)) = false) (hf : findIn K (.ref C) f = some none) (hb : Bd qual (iArgs [aSelf a0, aPar f a1]) [iSup txt j p0 p1 p2 p3 p4 p5, iPut f q1 q2 q3 q4] (iSc [f]) [f])
    (hq : ∀ h' tk e d, Made s.heap h' e C (some d) [(f, v)] → R (.ok (.ret (.ref e))) { s with heap := h', toks := tk }) :
    codeAny (model prog w) A (.call (.ref C) ⟨[v], []⟩) R s := by
  have e0 : (f == ("self" : Str)) = false := by simpa using f1
  have e1 : (("self" : Str) == f) = false := by simpa using fun z : ("self" : Str) = f => f1 z.symm
  refine enter T Z X (by show 1 ≤ sizeLine; rw [sizeLine_eq]; omega) fun h1 k1 he hnx hsz => ?_
  refine init_run T Z (sc_ok [f] a0 [aPar f a1] (by simpa using f2) (by simpa using f3)) (binds := [("self", .ref (s.heap.objs.size + 1)), (f, v)]) (s := { s with heap := h1 }) (X.keeps k1) (hlim.keeps k1) (G.keeps k1) gs (Bl.keeps k1) bs he hnx (show A.depth + 1 < recursionLimit from hroom)
    (fun _ _ _ _ => hb _ _ _ _ _ _ _ _ rfl) (by simp [List.lookup, e0]) (by simp [List.lookup, e1]) (fun L => ⟨_, ev_sup hp⟩) fun h2 tk2 t1 hns k2 he2 => ?_
  have up : ∀ b o, s.heap.get? b = some o → h2.get? b = some o := fun b o e => k2 b o (Nat.ne_of_lt (Nat.lt_succ_of_lt (Heap.lt_size e))) (k1 b o e)
  have h2s : s.heap.objs.size ≤ h2.objs.size := Nat.le_trans (Nat.le_succ _) (Nat.le_of_lt (Heap.lt_size he2))
  have lF : (iSc [f]).names.lookup f = some .local := by simp [List.lookup, e0]
  refine wpAny_execs_cons (plainObj_wpAny_Assign_Attribute ?_ (by first | rfl | with_unfolding_all rfl))
  refine lds rfl lF hns (v := v) (by simp [List.lookup]) f4 (lds rfl rfl hns (v := .ref (s.heap.objs.size + 1)) (by simp [List.lookup, e1]) (by decide) ?_)
  refine put1 T.sf (X.keeps up) he2 Z.ov Z.hd Z.sa hf fun h3 tk3 dx k3 dn dne hx3 hn3 => ?_
  refine wpAny_execs_nil ⟨rfl, hq h3 _ _ dx ⟨fun b o e => k3 b o (Nat.ne_of_lt (Nat.lt_succ_of_lt (Heap.lt_size e))) (up b o e), Nat.le_succ _, ⟨t1, hx3⟩, (fun z => nomatch z), fun d z => ?_⟩⟩
  cases z
  refine ⟨Nat.le_trans h2s dn, dne, _, hn3, fun y => ?_⟩
  by_cases hy : y = f
  · subst hy; simp [List.lookup]
  · have : (y == f) = false := by simpa using hy
    simp [List.lookup, hy, this]
theorem made2 {f g : Str} {v u : Value} (T : Bas Bn newId iN bmN B initId bmB) (Z : Own prog K C fI cc cda newId B initId bmB qual (iArgs [aSelf a0, aPar f a1, aPar g a2]) [iSup txt j p0 p1 p2 p3 p4 p5, iPut f q1 q2 q3 q4, iPut g r1 r2 r3 r4] (iSc [f, g]))
    (X : K.In s.heap) (hlim : s.heap.NoLimit) (G : s.heap.Ns mainGlobals mg) (gs : mg "super" = none) (Bl : s.heap.Ns builtinsNs mb) (bs : mb "super" = some (.type "super")) (hroom : A.depth + 1 < recursionLimit) (hp : (p2.endLine == p4.line) = true)
    (f1 : f ≠ "self") (f2 : f ≠ "super") (f3 : f ≠ "__class__") (f4 : (f == ("__debug__" : Str)) = false) (hf : findIn K (.ref C) f = some none)
    (g1 : g ≠ "self") (g2 : g ≠ "super") (g3 : g ≠ "__class__") (g4 : (g == ("__debug__" : Str)) = false) (hg : findIn K (.ref C) g = some none) (fg : f ≠ g) (hb : Bd qual (iArgs [aSelf a0, aPar f a1, aPar g a2]) [iSup txt j p0 p1 p2 p3 p4 p5, iPut f q1 q2 q3 q4, iPut g r1 r2 r3 r4] (iSc [f, g]) [f, g])
    (hq : ∀ h' tk e d, Made s.heap h' e C (some d) [(f, v), (g, u)] → R (.ok (.ret (.ref e))) { s with heap := h', toks := tk }) :
    codeAny (model prog w) A (.call (.ref C) ⟨[v, u], []⟩) R s := by
  have e0 : (f == ("self" : Str)) = false := by simpa using f1
  have e1 : (("self" : Str) == f) = false := by simpa using fun z : ("self" : Str) = f => f1 z.symm
  have e2 : (g == ("self" : Str)) = false := by simpa using g1
  have e3 : (("self" : Str) == g) = false := by simpa using fun z : ("self" : Str) = g => g1 z.symm
  have e4 : (f == g) = false := by simpa using fg
  have e5 : (g == f) = false := by simpa using fun z : g = f => fg z.symm
  refine enter T Z X (by show 2 ≤ sizeLine; rw [sizeLine_eq]; omega) fun h1 k1 he hnx hsz => ?_
  refine init_run T Z (sc_ok [f, g] a0 [aPar f a1, aPar g a2] (by simpa using ⟨f2, g2⟩) (by simpa using ⟨f3, g3⟩)) (binds := [("self", .ref (s.heap.objs.size + 1)), (f, v), (g, u)]) (s := { s with heap := h1 }) (X.keeps k1) (hlim.keeps k1) (G.keeps k1) gs (Bl.keeps k1) bs he hnx (show A.depth + 1 < recursionLimit from hroom)
    (fun _ _ _ _ => hb _ _ _ _ _ _ _ _ rfl) (by simp [List.lookup, e0, e2, e5]) (by simp [List.lookup, e1, e3]) (fun L => ⟨_, ev_sup hp⟩) fun h2 tk2 t1 hns k2 he2 => ?_
  have up : ∀ b o, s.heap.get? b = some o → h2.get? b = some o := fun b o e => k2 b o (Nat.ne_of_lt (Nat.lt_succ_of_lt (Heap.lt_size e))) (k1 b o e)
  have h2s : s.heap.objs.size ≤ h2.objs.size := Nat.le_trans (Nat.le_succ _) (Nat.le_of_lt (Heap.lt_size he2))
  have lF : (iSc [f, g]).names.lookup f = some .local := by simp [List.lookup, e0]
  have lG : (iSc [f, g]).names.lookup g = some .local := by simp [List.lookup, e2, e5]
  refine wpAny_execs_cons (plainObj_wpAny_Assign_Attribute ?_ (by first | rfl | with_unfolding_all rfl))
  refine lds rfl lF hns (v := v) (by simp [List.lookup, e4]) f4 (lds rfl rfl hns (v := .ref (s.heap.objs.size + 1)) (by simp [List.lookup, e1, e3]) (by decide) ?_)
  refine put1 T.sf (X.keeps up) he2 Z.ov Z.hd Z.sa hf fun h3 tk3 dx k3 dn dne hx3 hn3 => ?_
  have up3 : ∀ b o, s.heap.get? b = some o → h3.get? b = some o := fun b o e => k3 b o (Nat.ne_of_lt (Nat.lt_succ_of_lt (Heap.lt_size e))) (up b o e)
  have nL : h1.objs.size ≠ s.heap.objs.size + 1 := by rw [hsz]; omega
  have ns3 : h3.Ns h1.objs.size (fun y => List.lookup y [(("self" : Str), Value.ref (s.heap.objs.size + 1)), (f, v), (g, u)].reverse) := by
    obtain ⟨oL, es, ep, z1, z2⟩ := hns
    exact ⟨oL, es, ep, k3 _ _ nL z1, z2⟩
  refine wpAny_execs_cons (plainObj_wpAny_Assign_Attribute ?_ (by first | rfl | with_unfolding_all rfl))
  refine lds rfl lG ns3 (v := u) (by simp [List.lookup, e5]) g4 (lds rfl rfl ns3 (v := .ref (s.heap.objs.size + 1)) (by simp [List.lookup, e1, e3]) (by decide) ?_)
  refine put2 T.sf (X.keeps up3) hx3 hn3 (nl := [f]) (fun y hy => ?_) (by show 1 ≤ 1000; omega) Z.ov Z.hd Z.sa hg fun h4 tk4 k4 hn4 => ?_
  · by_cases z : y = f
    · simp [z]
    · simp [z] at hy
  have dL : ∀ b o, s.heap.get? b = some o → b ≠ dx := fun b o e z => absurd (Nat.lt_of_lt_of_le (Heap.lt_size e) (Nat.le_trans h2s dn)) (by rw [z]; exact Nat.lt_irrefl _)
  refine wpAny_execs_nil ⟨rfl, hq h4 _ _ dx ⟨fun b o e => k4 b o (dL b o e) (up3 b o e), Nat.le_succ _, ⟨t1, k4 _ _ (Ne.symm dne) hx3⟩, (fun z => nomatch z), fun d z => ?_⟩⟩
  cases z
  refine ⟨Nat.le_trans h2s dn, dne, _, hn4, fun y => ?_⟩
  by_cases hy : y = f
  · subst hy
    simp [List.lookup, fg]
  · have z1 : (y == f) = false := by simpa using hy
    by_cases hz : y = g
    · subst hz
      simp [List.lookup, z1]
    · have z2 : (y == g) = false := by simpa using hz
      simp [List.lookup, hy, hz, z1, z2]
end
end XS
end PySem

set_option Elab.async false
set_option linter.all false
set_option maxRecDepth 100000
set_option maxHeartbeats 2000000
namespace PySem
namespace XS
open PySem.W PySem.Calls PyProof.Rows PySem.HandSPX
/-- the class at C makes exceptions with the fields fs -/
def MkC (P : Program) (w : World) (K : Frag) (mg : Str → Option Value) (C : Addr) (fs : List Str) : Prop :=
  ∀ (A : Around) (s : Shared) (vs : List Value) (R : Result → Shared → Prop), K.In s.heap → s.heap.NoLimit → s.heap.Ns mainGlobals mg → (∃ mb, s.heap.Ns builtinsNs mb ∧ mb "super" = some (.type "super")) → A.depth + 1 < recursionLimit → vs.length = fs.length →
    (∀ h' tk e d, Made s.heap h' e C d (fs.zip vs) → (d = none ↔ fs = []) → R (.ok (.ret (.ref e))) { s with heap := h', toks := tk }) → codeAny (model P w) A (.call (.ref C) ⟨vs, []⟩) R s
section
variable {P : Program} {w : World} {K : Frag} {mg : Str → Option Value} {C fI cc cda : Addr} {Bn newId iN B initId : String} {bmN bmB : List Value} {qual : Str}
variable {txt : Str} {j : Nat} {a0 a1 a2 p0 p1 p2 p3 p4 p5 q1 q2 q3 q4 r1 r2 r3 r4 : Pos}
theorem mkC0 (T : Bas Bn newId iN bmN B initId bmB) (Z : Own P K C fI cc cda newId B initId bmB qual (iArgs [aSelf a0]) [iSup txt j p0 p1 p2 p3 p4 p5] (iSc [])) (gs : mg "super" = none) (hp : (p2.endLine == p4.line) = true) : MkC P w K mg C [] := by
  intro A s vs R X hl G ⟨mb, hB, eB⟩ hr hn hq
  cases vs with
  | nil => exact made0 T Z X hl G gs hB eB hr hp fun h' tk e M => hq h' tk e none M ⟨fun _ => rfl, fun _ => rfl⟩
  | cons v r => cases hn
theorem mkC1 {f : Str} (T : Bas Bn newId iN bmN B initId bmB) (Z : Own P K C fI cc cda newId B initId bmB qual (iArgs [aSelf a0, aPar f a1]) [iSup txt j p0 p1 p2 p3 p4 p5, iPut f q1 q2 q3 q4] (iSc [f])) (gs : mg "super" = none) (hp : (p2.endLine == p4.line) = true)
    (f1 : f ≠ "self") (f2 : f ≠ "super") (f3 : f ≠ "__class__") (f4 : (f == ("__debug__" : Str)) = false) (hf : findIn K (.ref C) f = some none) (hb : Bd qual (iArgs [aSelf a0, aPar f a1]) [iSup txt j p0 p1 p2 p3 p4 p5, iPut f q1 q2 q3 q4] (iSc [f]) [f]) : MkC P w K mg C [f] := by
  intro A s vs R X hl G ⟨mb, hB, eB⟩ hr hn hq
  match vs, hn with
  | [v], _ => exact made1 T Z X hl G gs hB eB hr hp f1 f2 f3 f4 hf hb fun h' tk e d M => hq h' tk e (some d) M ⟨(fun z => nomatch z), fun z => nomatch z⟩
theorem mkC2 {f g : Str} (T : Bas Bn newId iN bmN B initId bmB) (Z : Own P K C fI cc cda newId B initId bmB qual (iArgs [aSelf a0, aPar f a1, aPar g a2]) [iSup txt j p0 p1 p2 p3 p4 p5, iPut f q1 q2 q3 q4, iPut g r1 r2 r3 r4] (iSc [f, g])) (gs : mg "super" = none) (hp : (p2.endLine == p4.line) = true)
    (f1 : f ≠ "self") (f2 : f ≠ "super") (f3 : f ≠ "__class__") (f4 : (f == ("__debug__" : Str)) = false) (hf : findIn K (.ref C) f = some none)
    (g1 : g ≠ "self") (g2 : g ≠ "super") (g3 : g ≠ "__class__") (g4 : (g == ("__debug__" : Str)) = false) (hg : findIn K (.ref C) g = some none) (fg : f ≠ g)
    (hb : Bd qual (iArgs [aSelf a0, aPar f a1, aPar g a2]) [iSup txt j p0 p1 p2 p3 p4 p5, iPut f q1 q2 q3 q4, iPut g r1 r2 r3 r4] (iSc [f, g]) [f, g]) : MkC P w K mg C [f, g] := by
  intro A s vs R X hl G ⟨mb, hB, eB⟩ hr hn hq
  match vs, hn with
  | [v, u], _ => exact made2 T Z X hl G gs hB eB hr hp f1 f2 f3 f4 hf g1 g2 g3 g4 hg fg hb fun h' tk e d M => hq h' tk e (some d) M ⟨(fun z => nomatch z), fun z => nomatch z⟩
end
end XS
end PySem
namespace L2
open PySem PySem.Spec PyProof.Rows
theorem relO_zip : ∀ {fs : List Str} {vs : List V} {us : List Value}, Vals vs us → ∀ y, RelO ((fs.zip vs).lookup y) ((fs.zip us).lookup y)
  | [], _, _, _, _ => trivial
  | _ :: _, _, _, .nil, _ => trivial
  | f :: fs, _, _, .cons r t, y => by
    simp only [List.zip_cons_cons, List.lookup_cons]
    cases y == f with
    | true => exact r
    | false => exact relO_zip t y
/-- what stands behind the making: raised, and as a value -/
def kMkX (C : Addr) : List Str → List V → Hp → XK → Prop
  | [], _, H, Q => Q (.ref C) none H
  | f :: fs, vs, H, Q => ∀ d, H d = none → Q (.ref C) (some d) (upd H d (.xd ((f :: fs).zip vs)))
def kMkV (C : Addr) : List Str → List V → Hp → VK → Prop
  | [], _, H, Q => ∀ e, H e = none → Q (.ref e) (upd H e (exo e C none))
  | f :: fs, vs, H, Q => ∀ d e, H d = none → H e = none → d ≠ e → Q (.ref e) (upd (upd H d (.xd ((f :: fs).zip vs))) e (exo e C (some d)))
section
variable {X : Cx} {C : Addr} {fs : List Str}
/-- the state behind the call, without the new object, and with it -/
theorem Inv.xmade {pins : List (Addr × Obj)} {σ : St} {H : Hp} {s : Shared} {h' : Heap} {tk : Nat} {e : Addr} {d : Option Addr} {vs : List V} {us : List Value} (I : Inv X pins σ H s) (r : Vals vs us) (M : PySem.XS.Made s.heap h' e C d (fs.zip us)) :
    ∃ (H' : Hp) (G : Heap), (d = none → H' = H) ∧ (∀ dd, d = some dd → H dd = none ∧ dd ≠ e ∧ H' = upd H dd (.xd (fs.zip vs))) ∧ H e = none ∧ H' e = none ∧ G.get? e = none ∧ (∀ b o, G.get? b = some o → h'.get? b = some o) ∧
      Inv X pins σ H' { s with heap := G, toks := tk } ∧ Inv X pins σ (upd H' e (exo e C d)) { s with heap := h', toks := tk } := by
  obtain ⟨G, g1, g2⟩ := restrict h' fun b => decide (b ≠ e)
  have gk : ∀ b, b ≠ e → G.get? b = h'.get? b := fun b hb => g1 b (decide_eq_true hb)
  have ge : G.get? e = none := g2 e (by simp)
  have old : ∀ b o, s.heap.get? b = some o → G.get? b = some o := fun b o q => (gk b (Nat.ne_of_lt (Nat.lt_of_lt_of_le (Heap.lt_size q) M.new))).trans (M.keep b o q)
  have back : ∀ b o, G.get? b = some o → h'.get? b = some o := fun b o q => by
    by_cases hb : b = e
    · rw [hb, ge] at q; cases q
    · rw [← gk b hb]; exact q
  have ne : H e = none := I.hok.fresh M.new
  obtain ⟨t1, ho⟩ := M.obj
  cases d with
  | none =>
    have J : Inv X pins σ H { s with heap := G, toks := tk } := I.kept (t' := tk) old
    exact ⟨H, G, fun _ => rfl, (fun dd z => nomatch z), ne, ne, ge, back, J, J.laidN back ge ne (exo_ok ho)⟩
  | some dd =>
    obtain ⟨dn, dne, mA, hns, hm⟩ := M.some_ dd rfl
    have hd : H dd = none := I.hok.fresh dn
    have ob : ObjOk X.prog X.w (upd H dd (.xd (fs.zip vs))) G dd (.xd (fs.zip vs)) := by
      refine ⟨mA, hns.at (fun o q => (gk dd dne).trans q), fun f => ?_⟩
      rw [hm]
      exact relO_zip r f
    have J : Inv X pins σ (upd H dd (.xd (fs.zip vs))) { s with heap := G, toks := tk } := I.laid (t' := tk) old dn ob
    have ne' : (upd H dd (.xd (fs.zip vs))) e = none := by rw [upd_ne (Ne.symm dne)]; exact ne
    exact ⟨_, G, (fun z => nomatch z), fun d' z => by cases z; exact ⟨hd, dne, rfl⟩, ne, ne', ge, back, J, J.laidN back ge ne' (exo_ok ho)⟩
theorem Inv.bltSuper {pins : List (Addr × Obj)} {σ : St} {H : Hp} {s : Shared} (I : Inv X pins σ H s) : ∃ mb, s.heap.Ns builtinsNs mb ∧ mb "super" = some (.type "super") := by
  obtain ⟨mb, hb, e⟩ := I.mod.blt
  exact ⟨mb, hb.keeps I.bk, (e _ (by decide)).trans (by decide +kernel)⟩
theorem run_val (T : PySem.XS.MkC X.prog X.w X.K X.mg C fs) {k : Nat} (hr : Room (k + 1) X.A) {pins : List (Addr × Obj)} {σ : St} {H : Hp} {s : Shared} {vs : List V} {us : List Value} {Q : VK} (I : Inv X pins σ H s) (r : Vals vs us) (hl : vs.length = fs.length) (h : kMkV C fs vs H Q) :
    wpAny (model X.prog X.w) X.A (call (.ref C) us) (EP X pins σ Q) X.xe s := by
  refine wpAny_call (T X.A s us _ I.kIn I.nolimit (I.mod.glob.keeps I.bk) I.bltSuper (by have := hr.dp; omega) (by rw [← r.length, hl]) fun h' tk e d M hd => ?_)
  obtain ⟨H', G, e1, e2, ne, ne', ge, bk, J, J'⟩ := I.xmade (tk := tk) r M
  refine ⟨.ref e, _, J', rfl, ?_⟩
  cases fs with
  | nil =>
    have z := hd.mpr rfl
    subst z
    rw [e1 rfl]
    exact h e ne
  | cons f fs =>
    cases d with
    | none => exact absurd (hd.mp rfl) (by simp)
    | some dd =>
      obtain ⟨hd0, dne, eH⟩ := e2 dd rfl
      rw [eH]
      exact h dd e hd0 ne dne
theorem run_mk (T : PySem.XS.MkC X.prog X.w X.K X.mg C fs) (hR : Raises X (.ref C)) {k : Nat} (hr : Room (k + 1) X.A) {pins : List (Addr × Obj)} {σ : St} {H : Hp} {s : Shared} {vs : List V} {us : List Value} {Q : XK} (I : Inv X pins σ H s) (r : Vals vs us) (hl : vs.length = fs.length) (h : kMkX C fs vs H Q) :
    wpAny (model X.prog X.w) X.A (call (.ref C) us) (MkP X pins σ Q) X.xe s := by
  refine wpAny_call (T X.A s us _ I.kIn I.nolimit (I.mod.glob.keeps I.bk) I.bltSuper (by have := hr.dp; omega) (by rw [← r.length, hl]) fun h' tk e d M hd => ?_)
  obtain ⟨H', G, e1, e2, ne, ne', ge, bk, J, J'⟩ := I.xmade (tk := tk) r M
  obtain ⟨t1, ho⟩ := M.obj
  have q : Q (.ref C) d H' := by
    cases fs with
    | nil =>
      have z := hd.mpr rfl
      subst z
      rw [e1 rfl]
      exact h
    | cons f fs =>
      cases d with
      | none => exact absurd (hd.mp rfl) (by simp)
      | some dd =>
        obtain ⟨hd0, dne, eH⟩ := e2 dd rfl
        rw [eH]
        exact h dd hd0
  exact ⟨e, _, _, { s with heap := G, toks := tk }, H', .ref C, d, rfl, J, bk, ge, ho, ⟨rfl, rfl⟩, rfl, rfl, ne', rfl, I.bare, hR, q⟩
variable {x : Str} {p pos : Pos} {e : Expr} {es : List Expr} {ta : TA} {k : Nat}
def tMkV (C : Addr) (fs : List Str) (ta : TA) : TE := fun σ H Q => ta σ H fun vs H1 => vs.length = fs.length ∧ kMkV C fs vs H1 Q
def tMkX (C : Addr) (fs : List Str) (ta : TA) : St → Hp → XK → Prop := fun σ H Q => ta σ H fun vs H1 => vs.length = fs.length ∧ kMkX C fs vs H1 Q
theorem pe_xmk (T : PySem.XS.MkC X.prog X.w X.K X.mg C fs) (kC : PySem.W.keepIn X.K (.ref C) = true) (hr : Room (k + 1) X.A) (hg : Gl X x) (hm : X.mg x = some (.ref C)) (ha : PA X (e :: es) ta)
    (hdb : (x == ("__debug__" : Str)) = false := by decide) (he : starEach (e :: es) X.env = (false, eval e X.env) :: starEach es X.env := by rfl) (hpl : (backTo pos (starEach es X.env)).any (·.1) = false := by rfl) :
    PE X (.Call (.Name x p) (e :: es) [] pos) (tMkV C fs ta) := by
  refine ⟨fun pins s σ H Q I h => ?_⟩
  refine wpAny_Call_Name_kw (ld_glob I hg hm ?_ hdb)
  exact PySem.W.callWith_K (h₀ := X.base) I.ok.mod.kin kC (thn (ha.run pos pins s σ H _ I h) fun us s1 ⟨vs, H1, I1, r, hl, q⟩ => ⟨I1.kIn, run_val T hr I1 r hl q⟩) he hpl
theorem pe_xmk0 (T : PySem.XS.MkC X.prog X.w X.K X.mg C []) (kC : PySem.W.keepIn X.K (.ref C) = true) (hr : Room (k + 1) X.A) (hg : Gl X x) (hm : X.mg x = some (.ref C)) (hdb : (x == ("__debug__" : Str)) = false := by decide) :
    PE X (.Call (.Name x p) [] [] pos) (tMkV C [] tNil) := by
  refine ⟨fun pins s σ H Q I h => ?_⟩
  refine wpAny_Call_Name_kw (ld_glob I hg hm ?_ hdb)
  exact PySem.W.callWith_K0 I.kIn kC (run_val (us := []) T hr I .nil rfl h.2)
theorem pmk_x (T : PySem.XS.MkC X.prog X.w X.K X.mg C fs) (hR : Raises X (.ref C)) (kC : PySem.W.keepIn X.K (.ref C) = true) (hr : Room (k + 1) X.A) (hg : Gl X x) (hm : X.mg x = some (.ref C)) (ha : PA X (e :: es) ta)
    (hdb : (x == ("__debug__" : Str)) = false := by decide) (he : starEach (e :: es) X.env = (false, eval e X.env) :: starEach es X.env := by rfl) (hpl : (backTo pos (starEach es X.env)).any (·.1) = false := by rfl) :
    PMk X (.Call (.Name x p) (e :: es) [] pos) (tMkX C fs ta) := by
  intro pins s σ H Q I h
  refine wpAny_Call_Name_kw (ld_glob I hg hm ?_ hdb)
  exact PySem.W.callWith_K (h₀ := X.base) I.ok.mod.kin kC (thn (ha.run pos pins s σ H _ I h) fun us s1 ⟨vs, H1, I1, r, hl, q⟩ => ⟨I1.kIn, run_mk T hR hr I1 r hl q⟩) he hpl
theorem pmk_x0 (T : PySem.XS.MkC X.prog X.w X.K X.mg C []) (hR : Raises X (.ref C)) (kC : PySem.W.keepIn X.K (.ref C) = true) (hr : Room (k + 1) X.A) (hg : Gl X x) (hm : X.mg x = some (.ref C)) (hdb : (x == ("__debug__" : Str)) = false := by decide) :
    PMk X (.Call (.Name x p) [] [] pos) (tMkX C [] tNil) := by
  intro pins s σ H Q I h
  refine wpAny_Call_Name_kw (ld_glob I hg hm ?_ hdb)
  exact PySem.W.callWith_K0 I.kIn kC (run_mk (us := []) T hR hr I .nil rfl h.2)

/-! ### an exception held as a value: its fields, its classes -/
/-- what stands at a is an exception of the class at C -/
def ExAt (H : Hp) (a C : Addr) (fs : List (Str × V)) : Prop := (fs = [] ∧ H a = some (exo a C none)) ∨ ∃ d, H a = some (exo a C (some d)) ∧ H d = some (.xd fs)
def tXfld (K : PySem.W.Frag) (ta : TE) (n : Str) : TE := fun σ H Q => ta σ H fun x H1 => ∃ a C d fs v, x = .ref a ∧ H1 a = some (exo a C (some d)) ∧ H1 d = some (.xd fs) ∧ XfC K C ∧ PySem.W.findIn K (.ref C) n = some none ∧ fs.lookup n = some v ∧ Q v H1
theorem pe_xfld {n : Str} {te : TE} (he : PE X e te) (hb : attributeBase e n X.env (eval e X.env) = eval e X.env := by rfl) : PE X (.Attribute e n pos) (tXfld X.K te n) := by
  refine ⟨fun pins s σ H Q I h => ?_⟩
  refine attr_of hb (thn (he.run pins s σ H _ I h) fun u s1 hh => ?_)
  obtain ⟨x, H1, I1, rx, a, C, d, fs, v, ex, ea, ed, T, hno, l, q⟩ := hh
  subst ex
  obtain rfl : u = Value.ref a := rx
  obtain ⟨t1, ho⟩ := exo_at I1.hok ea
  have hx : ObjOk X.prog X.w H1 s1.heap d (.xd fs) := I1.hok d _ ed
  obtain ⟨mA, hns, hr⟩ := hx
  obtain ⟨od, hod, hl⟩ := lookIn_ns hns
  obtain ⟨u, hu, ru⟩ := RelO.some_of (v := v) (o := mA n) (by rw [← l]; exact hr n)
  have J : PySem.W.InstAt s1.heap a (PySem.XS.xo C t1 (some d)) C (some od) := ⟨ho, rfl, rfl, hod⟩
  exact HandSPX.exc_get I1.kIn J T.ga T.gg T.exC (PySem.W.findObj_own T.hdC hno rfl (by rw [hl, hu])) (handed_of ru) ⟨v, H1, I1.tok _, ru, q⟩
/-- what the class must say, so that isinstance asks its instances rightly -/
def isB (K : PySem.W.Frag) (C : Addr) : Bool :=
  decide (PySem.W.findIn K (.ref C) "__getattribute__" = some (some (.builtin "BaseException.__getattribute__"))) && (decide (PySem.W.findIn K (.ref C) "__getattr__" = some none) && (decide (PySem.W.subIn K (.ref C) (.type "BaseException") = some true) && (PySem.W.hasDictIn K C &&
  (decide (PySem.W.findIn K (.ref C) "__class__" = some (some (.builtin "object.__class__"))) && (decide (PySem.W.specialIn K (.builtin "object.__class__") "__get__" = some (some (.builtin "getset_descriptor.__get__"))) && (decide (PySem.W.takesIn K (.builtin "object.__class__") = some true) && decide (PySem.W.mroIn K C (.type "object") = some true)))))))
theorem isB_ok {K : PySem.W.Frag} {C x : Addr} {ox : Obj} {od : Option Obj} (h : isB K C = true) : PySem.W.KitX K (.ref x) (.ref C) (fun h => PySem.W.InstAt h x ox C od) := by
  obtain ⟨h1, h⟩ := Bool.and_eq_true_iff.mp h
  obtain ⟨h2, h⟩ := Bool.and_eq_true_iff.mp h
  obtain ⟨h3, h⟩ := Bool.and_eq_true_iff.mp h
  obtain ⟨h4, h⟩ := Bool.and_eq_true_iff.mp h
  obtain ⟨h5, h⟩ := Bool.and_eq_true_iff.mp h
  obtain ⟨h6, h⟩ := Bool.and_eq_true_iff.mp h
  obtain ⟨h7, h8⟩ := Bool.and_eq_true_iff.mp h
  obtain ⟨cd, hc, _⟩ := PySem.W.any_some h4
  exact PySem.W.kitx_exc (by rw [hc]; rfl) (of_decide_eq_true h1) (of_decide_eq_true h2) (of_decide_eq_true h3) (of_decide_eq_true h5) (of_decide_eq_true h6) (of_decide_eq_true h7) (of_decide_eq_true h8)
def rIsX (K : PySem.W.Frag) : List V → Hp → VK → Prop := fun xs H Q => ∃ (a C : Addr) (fs : List (Str × V)) (c : V) (cv : Value) (b : Bool), xs = [.ref a, c] ∧ ExAt H a C fs ∧ isB K C = true ∧ (∀ u, RelV c u → u = cv) ∧ PySem.W.kitOne K (.ref C) cv = some b ∧ Q (.bl b) H
theorem call_isX : CallR X (.builtin "isinstance") (rIsX X.K) := by
  intro pins s σ H xs us Q I r h
  obtain ⟨a, C, fs, c, cv, b, rfl, hE, hC, hcv, e, q⟩ := h
  cases r with
  | cons rx rr =>
    cases rr with
    | cons rt rr =>
      cases rr
      cases rx
      have ec := hcv _ rt
      subst ec
      rcases hE with ⟨_, ha⟩ | ⟨d, ha, hd⟩
      · obtain ⟨t1, ho⟩ := exo_at I.hok ha
        have J : PySem.W.InstAt s.heap a (PySem.XS.xo C t1 none) C none := ⟨ho, rfl, rfl, trivial⟩
        exact PySem.W.kia_one (isB_ok hC) I.kIn J e (fun z => nomatch z) fun tk => ⟨.bl b, H, I.kept (t' := tk) fun _ _ z => z, rfl, q⟩
      · obtain ⟨t1, ho⟩ := exo_at I.hok ha
        have hx : ObjOk X.prog X.w H s.heap d (.xd fs) := I.hok d _ hd
        obtain ⟨mA, ⟨od, es, ep, hod, _⟩, hr⟩ := hx
        have J : PySem.W.InstAt s.heap a (PySem.XS.xo C t1 (some d)) C (some od) := ⟨ho, rfl, rfl, hod⟩
        exact PySem.W.kia_one (isB_ok hC) I.kIn J e (fun z => nomatch z) fun tk => ⟨.bl b, H, I.kept (t' := tk) fun _ _ z => z, rfl, q⟩
end
end L2

set_option Elab.async false
set_option linter.all false
set_option maxRecDepth 100000
set_option maxHeartbeats 2000000
/-! GG: promises of defs that are called where no repr is under way (Around.guards = some []); repr of data. -/
namespace L2
open PySem PySem.Spec PyProof.Rows
/-- as FnOk, for calls where no repr is under way -/
structure FnG (P : Program) (w : World) (K : PySem.W.Frag) (mg : Str → Option Value) (base : Heap) (CX : CXT) (k : Nat) (f : Addr) (fd : FuncData) (ps : List Str) (sp : Sp) : Prop where
  len : ∀ vs H Q E, sp vs H Q E → vs.length = ps.length
  run : ∀ (A : Around) (outer : List Env) (s : Shared) (H : Hp) (args : Args) (us : List Value) (vs : List V) (Q : VK) (E : XK), A.guards = some [] → Room k A → Env0 P w K mg base A outer s H → BindsTo s fd args (ps.zip us) → Vals vs us → sp vs H Q E →
    codeAny (model P w) A (.call (.ref f) args) (CR CX outer P w H s Q E) s
section
variable {P : Program} {w : World} {K : PySem.W.Frag} {mg : Str → Option Value} {base : Heap} {CX : CXT}
theorem FnG.mono {j k : Nat} {f : Addr} {fd : FuncData} {ps : List Str} {sp : Sp} (F : FnG P w K mg base CX j f fd ps sp) (h : j ≤ k) : FnG P w K mg base CX k f fd ps sp :=
  ⟨F.len, fun A outer s H args us vs Q E g hr => F.run A outer s H args us vs Q E g (hr.mono h)⟩
theorem FnOk.g {k : Nat} {f : Addr} {fd : FuncData} {ps : List Str} {sp : Sp} (F : FnOk P w K mg base CX k f fd ps sp) : FnG P w K mg base CX k f fd ps sp :=
  ⟨F.len, fun A outer s H args us vs Q E _ => F.run A outer s H args us vs Q E⟩
/-- a def by its body -/
theorem fnG_of {k : Nat} {f : Addr} {name qual : Str} {params : Arguments} {body : List Stmt} {scope : Scope} {dV kV doc pm cdv ct oc : Value} {an od : Option Addr}
    {osl : Array (Option Value)} {N ps : List Str} {sp : Sp} (lk : K.lookup f = some ⟨oc, od, .func (PySem.W.fnOf name qual params body scope dV kV doc pm an cdv ct), osl⟩) (hcd : PySem.W.codeIn K cdv qual = true) (S : FnScope N ps scope)
    (len : ∀ vs H Q E, sp vs H Q E → vs.length = ps.length)
    (hbody : ∀ (A : Around) (outer : List Env) (s : Shared) (H : Hp) (vs : List V) (Q : VK) (E : XK), A.guards = some [] → Room k (A.deeper (envOfC qual scope s.heap.objs.size f cdv)) → sp vs H Q E →
      ∃ t, PSs (cxOf CX P w K mg base N qual scope f cdv A outer s H E) body t ∧ t { nx := fun _ H' => Q .non H', rt := Q } (start N vs) H) :
    FnG P w K mg base CX (k + 1) f (PySem.W.fnOf name qual params body scope dV kV doc pm an cdv ct) ps sp where
  len := len
  run := fun A outer s H args us vs Q E hgs hr e0 hb r hsp => by
    have up : ∀ b o, base.get? b = some o → s.heap.get? b = some o := fun b o e => (e0.bs b o e).1
    have kin : K.In s.heap := e0.mod.kin.keeps up
    refine codeAny_call_function hr.depth (kin _ _ lk) rfl S.co S.gen rfl (PySem.W.codeRec_of kin hcd) (hb _ _ _ _ ?_)
    refine wpAny_newFunctionEnv_cells S.kind (fun y hy => ?_) fun env he s1 x => ?_
    · rcases S.par y.1 (List.of_mem_zip hy).1 with q | q
      · exact .inl q
      · exact .inr ⟨q, PySem.W.cellsFrom_some _ _ _ (.inl q)⟩
    subst he
    refine ⟨(e0.mod.nolimit.keeps up).keeps x.toInCall.keep, codeAny_func ?_⟩
    obtain ⟨t, ht, hq⟩ := hbody A outer s H vs Q E hgs (hr.deeper _) hsp
    have I := inv_start (CX := CX) (E := E) S hr.hd e0 (len _ _ _ _ hsp) r x
    refine wpAny_mono (ht.run [] s1 (start N vs) H _ I hq) (fun fl s' hs => ?_) fun e s' hs => hs
    match fl, hs with
    | .ret u, ⟨v, σ', H', J, rv, q⟩ => exact ⟨v, H', J.os, J.bare, J.base, J.hok, rv, q⟩
    | .next, ⟨σ', H', J, q⟩ => exact ⟨V.non, H', J.os, J.bare, J.base, J.hok, rfl, q⟩
    | .brk, ⟨_, _, _, q⟩ => exact False.elim q
    | .cont, ⟨_, _, _, q⟩ => exact False.elim q
theorem Fun.okG {x qual : Str} {st : Stmt} {f : Addr} {fd : FuncData} {N ps : List Str} {k : Nat} {sp : Sp} (F : Fun K x qual st f fd) (S : FnScope N ps (defScope st)) (len : ∀ vs H Q E, sp vs H Q E → vs.length = ps.length)
    (hbody : ∀ (cdv : Value) (A : Around) (outer : List Env) (s : Shared) (H : Hp) (vs : List V) (Q : VK) (E : XK), A.guards = some [] → Room k (A.deeper (envOfC qual (defScope st) s.heap.objs.size f cdv)) → sp vs H Q E →
      ∃ t, PSs (cxOf CX0 P w K mg base N qual (defScope st) f cdv A outer s H E).nox (defBody st) t ∧ t { nx := fun _ H' => Q .non H', rt := Q } (start N vs) H) : FnG P w K mg base CX0 (k + 1) f fd ps sp := by
  obtain ⟨oc, od, kV, doc, pm, an, cdv, ct, osl, rfl, lk, hcd⟩ := F.ex
  refine fnG_of lk hcd S len fun A outer s H vs Q E hg hr hsp => ?_
  obtain ⟨t, h, q⟩ := hbody cdv A outer s H vs Q E hg hr hsp
  exact ⟨t, h.nox, q⟩
theorem Fun.okGX {x qual : Str} {st : Stmt} {f : Addr} {fd : FuncData} {N ps : List Str} {k : Nat} {sp : Sp} (F : Fun K x qual st f fd) (S : FnScope N ps (defScope st)) (len : ∀ vs H Q E, sp vs H Q E → vs.length = ps.length)
    (hbody : ∀ (cdv : Value) (A : Around) (outer : List Env) (s : Shared) (H : Hp) (vs : List V) (Q : VK) (E : XK), A.guards = some [] → Room k (A.deeper (envOfC qual (defScope st) s.heap.objs.size f cdv)) → sp vs H Q E →
      ∃ t, PSs (cxOf CX P w K mg base N qual (defScope st) f cdv A outer s H E) (defBody st) t ∧ t { nx := fun _ H' => Q .non H', rt := Q } (start N vs) H) : FnG P w K mg base CX (k + 1) f fd ps sp := by
  obtain ⟨oc, od, kV, doc, pm, an, cdv, ct, osl, rfl, lk, hcd⟩ := F.ex
  exact fnG_of lk hcd S len fun A outer s H vs Q E hg hr hsp => hbody cdv A outer s H vs Q E hg hr hsp
end
section
variable {X : Cx} {CX : CXT} {k : Nat} {f : Addr} {fd : FuncData} {ps : List Str} {sp : Sp} {dvs : List V} {ds : List Value} {E : XK} {x : Str} {p pos : Pos} {e : Expr} {es : List Expr} {t : TA}
theorem run_fnG {pins : List (Addr × Obj)} {σ : St} {H : Hp} {s : Shared} {Q : VK} {us : List Value} {vs : List V} (F : FnG X.prog X.w X.K X.mg X.base CX k f fd ps sp) (hgs : X.A.guards = some []) (hr : Room k X.A) (hb : Binds X.K fd ps ds) (hd : Vals dvs ds) (hx : Passes CX X E)
    (I : Inv X pins σ H s) (r : Vals vs us) (h : sp (vs ++ dvs) H Q E) : wpAny (model X.prog X.w) X.A (call (.ref f) us) (EP X pins σ Q) X.xe s := by
  have r2 := r.append hd
  refine wpAny_call (codeAny_mono (F.run X.A X.stack s H ⟨us, []⟩ (us ++ ds) (vs ++ dvs) Q E hgs hr I.env0 (hb s us I.kIn (r2.length.symm.trans (F.len _ _ _ _ h))) r2 h) fun r s' hq => ?_)
  match r, hq with
  | .error e, hq => exact hx pins σ H s e s' I hq
  | .ok (.ret u), hq => exact I.after hq
  | .ok .next, hq => exact False.elim hq
  | .ok .brk, hq => exact False.elim hq
  | .ok .cont, hq => exact False.elim hq
theorem pe_callG (F : FnG X.prog X.w X.K X.mg X.base CX k f fd ps sp) (hgs : X.A.guards = some []) (hr : Room k X.A) (hg : Gl X x) (hm : X.mg x = some (.ref f)) (hk : PySem.W.keepIn X.K (.ref f) = true) (hb : Binds X.K fd ps ds) (hd : Vals dvs ds) (hx : Passes CX X E)
    (ha : PA X (e :: es) t) (hdb : (x == ("__debug__" : Str)) = false := by decide) (he : starEach (e :: es) X.env = (false, eval e X.env) :: starEach es X.env := by rfl) (hpl : (backTo pos (starEach es X.env)).any (·.1) = false := by rfl) :
    PE X (.Call (.Name x p) (e :: es) [] pos) (tCall sp dvs E t) := by
  refine ⟨fun pins s σ H Q I h => ?_⟩
  refine wpAny_Call_Name_kw (ld_glob I hg hm ?_ hdb)
  exact PySem.W.callWith_K (h₀ := X.base) I.ok.mod.kin hk (thn (ha.run pos pins s σ H _ I h) fun us s1 ⟨vs, H1, I1, r, q⟩ => ⟨I1.kIn, run_fnG F hgs hr hb hd hx I1 r q⟩) he hpl
end
end L2

set_option Elab.async false
set_option linter.all false
set_option maxRecDepth 100000
set_option maxHeartbeats 2000000
namespace L2
open PySem PySem.Spec PyProof.Rows
/-- the law's call, by a promise that holds where no repr is under way -/
theorem law_callG {P : Program} {w : World} {K : PySem.W.Frag} {mg mb : Str → Option Value} {CX : CXT} {k : Nat} {fa a : Addr} {fd : FuncData} {x : Str} {sp : Sp} {s₁ : Shared} {vs : List Value} {ns : List Int}
    (KX : K.In s₁.heap) (hns : s₁.heap.Ns mainGlobals mg) (hb : s₁.heap.Ns builtinsNs mb) (hbb : ∀ x : Str, x ≠ "__name__" → mb x = bootBuiltins x) (hlim : s₁.heap.NoLimit) (hg : s₁.gens = #[])
    (ha : s₁.heap.get? a = some { cls := .type "list", data := .seq vs.toArray }) (hi : IntsAre vs ns) (hl : ns.length ≤ sizeLine) (hr : Room k callerA)
    (F : ∀ base : Heap, K.In base → base.Ns mainGlobals mg → FnG P w K mg base CX k fa fd [x] sp) (hbind : ∀ (s : Shared) (u : Value), BindsTo s fd ⟨[u], []⟩ [(x, u)])
    (hsp : ∀ H : Hp, Only H → SqL K H a (ns.map V.int) → sp [.ref a] H (fun v _ => v = .bl true) fun _ _ _ => False)
    (hCX : ∀ H e s', CX [] H s₁ (fun _ _ _ => False) e s' → False) :
    codeAny (model P w) callerA (.call (.ref fa) ⟨[.ref a], []⟩) (fun r s' => r = .ok (.ret (.bool true)) ∧ OldK s₁.heap s'.heap ∧ s'.os = s₁.os ∧ AllBare s'.gens) s₁ := by
  have rv := vals_ints hi
  -- H: nothing is tracked but the script, perhaps
  have main : ∀ H : Hp, Only H → SqL K H a (ns.map V.int) → HOk P w H s₁.heap → (∀ b, H b ≠ none → b = a ∧ K.lookup a = none) →
      codeAny (model P w) callerA (.call (.ref fa) ⟨[.ref a], []⟩) (fun r s' => r = .ok (.ret (.bool true)) ∧ OldK s₁.heap s'.heap ∧ s'.os = s₁.os ∧ AllBare s'.gens) s₁ := by
    intro H hO hS hok hA
    have nD : ∀ {b : Addr} {o : Obj} {es : Array DictEntry} {ep : Nat}, s₁.heap.get? b = some o → o.data = .dict es ep → H b = none := fun {b o es ep} e d => by
      refine Classical.byContradiction fun n => ?_
      obtain ⟨rfl, _⟩ := hA b n
      rw [ha] at e
      cases e
      exact nomatch d
    have nK : ∀ {b : Addr} {o : Obj}, K.lookup b = some o → H b = none := fun {b o} e => by
      refine Classical.byContradiction fun n => ?_
      obtain ⟨rfl, z⟩ := hA b n
      rw [z] at e
      cases e
    have ns' : ∀ {b : Addr} {m : Str → Option Value}, s₁.heap.Ns b m → (hidT s₁.heap H).Ns b m := fun {b m} ⟨o, es, ep, e, d, r⟩ => ⟨o, es, ep, hidT_get e (nD e d), d, r⟩
    have kin : K.In (hidT s₁.heap H) := fun b o e => hidT_get (KX b o e) (nK e)
    have md : Mod K mg (hidT s₁.heap H) := by
      obtain ⟨mc, h1, h2⟩ := hlim
      exact ⟨kin, ns' hns, ⟨mb, ns' hb, hbb⟩, ⟨mc, ns' h1, h2⟩⟩
    have e0 : Env0 P w K mg (hidT s₁.heap H) callerA [] s₁ H := ⟨rfl, md, fun b o e => of_hidT e, Nat.le_of_eq (hidT_size _ _), trivial, fun b z => by simp [frs] at z, hok, .of_eq hg⟩
    refine codeAny_mono ((F _ kin (ns' hns)).run callerA [] s₁ H ⟨[.ref a], []⟩ [.ref a] [.ref a] _ _ rfl hr e0 (hbind s₁ (.ref a)) (.cons rfl .nil) (hsp H hO hS)) fun r s' h => ?_
    match r, h with
    | .error e, h => exact (hCX H e s' h).elim
    | .ok .next, h => exact False.elim h
    | .ok .brk, h => exact False.elim h
    | .ok .cont, h => exact False.elim h
    | .ok (.ret u), ⟨v, H', os, bare, un, hok', r', q⟩ =>
      obtain rfl : v = .bl true := q
      obtain rfl : u = Value.bool true := r'
      refine ⟨rfl, OldK.of_keep fun b o e => ?_, os, bare⟩
      cases q : H b with
      | none => exact un.keep b o e q (by simp [frs]) (by simp)
      | some u =>
        rcases hO b with z | ⟨ob, xs, z⟩
        · rw [q] at z; cases z
        · have e1 := (hok b _ z).1
          rw [e] at e1
          cases e1
          exact (hok' b _ (un.frzs b _ _ z)).1
  cases hk : K.lookup a with
  | some o =>
    have e := KX a o hk
    rw [ha] at e
    cases e
    refine main (fun _ => none) (fun _ => .inl rfl) (.inr ⟨_, vs.toArray, _, hk, rfl, rfl, rfl, by rw [List.size_toArray, hi.length]; exact hl, by simpa using rv⟩) (fun b u z => nomatch z) fun b z => absurd rfl z
  | none =>
    refine main (fun b => if b = a then some (.frz { cls := .type "list", data := .seq vs.toArray } (.lst (ns.map V.int))) else none) (fun b => ?_) (.inl (.inr ⟨_, if_pos rfl⟩)) (fun b u z => ?_) fun b z => ⟨?_, hk⟩
    · by_cases hb : b = a
      · exact .inr ⟨_, _, if_pos hb⟩
      · exact .inl (if_neg hb)
    · by_cases hb : b = a
      · have z' := (if_pos hb).symm.trans z
        cases z'
        subst hb
        exact ⟨ha, by rw [List.length_map]; exact hl, vs, _, rv, ha⟩
      · exact absurd ((if_neg hb).symm.trans z) (fun y => nomatch y)
    · exact Classical.byContradiction fun hb => z (if_neg hb)
/-- the goal that k_head leaves, from the law's promise -/
theorem walk_ofG {l : PySem.W.OpenLaw} {n k : Nat} {q : Program} {loose : List Str} {XP : (Str → Option Value) → Heap → Prop} {YP : World → Heap → Prop} {d : DefRec} {K : Params → PySem.W.Frag} {sp : PySem.W.Frag → Sp} {x : Str}
    (hn : l.most = some n) (hn2 : n ≤ sizeLine) (hdf : d.params.defaults = []) (hr : Room k callerA)
    (hY : ∀ (w : World) (h : Heap), YP w h → (K w.params).In h)
    (F : ∀ (w : World) (mg : Str → Option Value) (fa : Addr) (h : Heap), (K w.params).In h → h.Ns mainGlobals mg → mg d.name = some (.ref fa) →
      ∃ fd : FuncData, (∀ (s : Shared) (u : Value), BindsTo s fd ⟨[u], []⟩ [(x, u)]) ∧
        ∀ base : Heap, (K w.params).In base → base.Ns mainGlobals mg → FnG l.prog w (K w.params) mg base CX0 k fa fd [x] (sp (K w.params)))
    (hsp : ∀ (K : PySem.W.Frag) (H : Hp) (a : Addr) (ns : List Int), ns.length ≤ n → Only H → SqL K H a (ns.map V.int) → sp K [.ref a] H (fun v _ => v = .bl true) fun _ _ _ => False) :
    PySem.W.WalkO q loose XP YP l.row.toRowW d [] (fun f vs => PySem.call f vs) := by
  refine Att.attach_call hn hdf fun w s₀ s₁ mg mb fa o pm cd doc a vs ns G Y ho hd hcd hmg hobj hints hlen hg => ?_
  have KX := hY w _ Y
  obtain ⟨fd, hb, hF⟩ := F w mg fa _ KX G.T.g hmg
  exact law_callG KX G.T.g G.T.b G.T.builtins G.T.nolimit hg hobj hints (Nat.le_trans hlen hn2) hr hF hb (fun H hO hS => hsp _ H a ns hlen hO hS) fun H e s' z => z

/-! ### repr of data -/
section
variable {X : Cx}
/-- repr(x), x data of any depth -/
def rRepr (K : PySem.W.Frag) : List V → Hp → VK → Prop := fun xs H Q => ∃ v d, xs = [v] ∧ Dp K H v d ∧ d.showable = true ∧ d.hasDict = false ∧ d.depth ≤ 60 ∧ d.shown.length ≤ sizeLine ∧ Q (.str d.shown) H
theorem call_reprD (hg : X.A.guards = some []) (hu : X.A.units + 64 < cLine) : CallR X (.builtin "repr") (rRepr X.K) := by
  intro pins s σ H xs us Q I r h
  obtain ⟨v, d, rfl, hd, hs, hn, hz, hl, q⟩ := h
  cases r with
  | cons rv rr =>
    rename_i u us'
    cases rr
    obtain ⟨as, rd⟩ := Dp.reads I d v u hd rv
    cases hd with
    | non =>
      cases rv
      rw [PyData.shown_none] at q
      exact PySem.P.repr_of_none ⟨.str _, H, I.tok _, ⟨_, rfl⟩, q⟩
    | bl b =>
      cases rv
      rw [PyData.shown_bool] at q
      exact PySem.P.repr_of_bool ⟨.str _, H, I.tok _, ⟨_, rfl⟩, by cases b <;> exact q⟩
    | int i =>
      obtain ⟨t, rfl⟩ := rv
      rw [PyData.shown_int] at q
      have hs' : i.natAbs.log2 < 1920 := of_decide_eq_true (by simpa only [PyData.showable] using hs)
      exact PySem.P.repr_of_int hs' ⟨.str _, H, I.tok _, ⟨_, rfl⟩, q⟩
    | str x =>
      obtain ⟨t, rfl⟩ := rv
      rw [PyData.shown_str] at q hl
      exact PySem.P.repr_of_str ⟨.str _, H, I.tok _, ⟨_, rfl⟩, q⟩ hl
    | lst hS hA =>
      cases rv
      exact repr_of_reads' rd hs (PyData.noDict_hsm hn) hg (by omega) (fun _ _ e => e) (fun h' u tk k => ⟨.str _, H, I.kept (t' := tk) k, ⟨_, rfl⟩, q⟩) hl
    | tup hS hA =>
      cases rv
      exact repr_of_reads' rd hs (PyData.noDict_hsm hn) hg (by omega) (fun _ _ e => e) (fun h' u tk k => ⟨.str _, H, I.kept (t' := tk) k, ⟨_, rfl⟩, q⟩) hl
end
end L2

set_option Elab.async false
set_option linter.all false
set_option maxRecDepth 100000
set_option maxHeartbeats 2000000
/-! GD: defs by their names. -/
namespace L2
open PySem PySem.Spec PyProof.Rows
/-- a def of the text stands under its name -/
def Def (K : PySem.W.Frag) (mg : Str → Option Value) (x : Str) (st : Stmt) : Prop := ∃ f fd, Fun K x x st f fd ∧ mg x = some (.ref f)
theorem def_mk {K : PySem.W.Frag} {h : Heap} {mg : Str → Option Value} {x : Str} {st : Stmt} {f : Addr} {oc : Value} {od an : Option Addr} {osl : Array (Option Value)} {kV doc pm cdv ct : Value} (X : K.In h) (G : h.Ns mainGlobals mg)
    (a : PySem.W.nsIn K mainGlobals x = some (some (.ref f))) (l : K.lookup f = some ⟨oc, od, .func (PySem.W.fnOf x x (defArgs st) (defBody st) (defScope st) .none kV doc pm an cdv ct), osl⟩)
    (c : PySem.W.codeIn K cdv x = true) (k : PySem.W.keepIn K (.ref f) = true) : Def K mg x st := ⟨f, _, fun_mk (st := st) l c k, PySem.W.mg_of X G a⟩
/-- the name x holds a def that keeps the promise sp -/
def HasFn (P : Program) (w : World) (K : PySem.W.Frag) (mg : Str → Option Value) (base : Heap) (CX : CXT) (k : Nat) (x : Str) (ps : List Str) (sp : Sp) : Prop :=
  ∃ f fd, FnOk P w K mg base CX k f fd ps sp ∧ mg x = some (.ref f) ∧ PySem.W.keepIn K (.ref f) = true ∧ Binds K fd ps []
def HasG (P : Program) (w : World) (K : PySem.W.Frag) (mg : Str → Option Value) (base : Heap) (CX : CXT) (k : Nat) (x : Str) (ps : List Str) (sp : Sp) : Prop :=
  ∃ f fd, FnG P w K mg base CX k f fd ps sp ∧ mg x = some (.ref f) ∧ PySem.W.keepIn K (.ref f) = true ∧ Binds K fd ps []
def tCallO (sp : Sp) (E : XK) (t : TA) : TE := fun σ H Q => t σ H fun vs H1 => sp vs H1 Q E
section
variable {X : Cx} {CX : CXT} {j k : Nat} {ps : List Str} {sp : Sp} {E : XK} {x : Str} {p pos : Pos} {e : Expr} {es : List Expr} {t : TA}
theorem pe_callO (O : HasFn X.prog X.w X.K X.mg X.base CX k x ps sp) (hr : Room j X.A) (hg : Gl X x) (hx : Passes CX X E) (ha : PA X (e :: es) t) (hjk : k ≤ j := by decide)
    (hdb : (x == ("__debug__" : Str)) = false := by decide) (he : starEach (e :: es) X.env = (false, eval e X.env) :: starEach es X.env := by rfl) (hpl : (backTo pos (starEach es X.env)).any (·.1) = false := by rfl) :
    PE X (.Call (.Name x p) (e :: es) [] pos) (tCallO sp E t) := by
  obtain ⟨f, fd, F, hm, hk, hb⟩ := O
  have q := pe_call (E := E) (dvs := []) (ds := []) (p := p) (pos := pos) F (hr.mono hjk) hg hm hk hb .nil hx ha hdb he hpl
  refine ⟨fun pins s σ H Q I h => q.run pins s σ H Q I ?_⟩
  have e : (fun (vs : List V) H1 => sp (vs ++ []) H1 Q E) = fun vs H1 => sp vs H1 Q E := by
    funext vs H1
    rw [List.append_nil]
  show t σ H (fun vs H1 => sp (vs ++ []) H1 Q E)
  rw [e]
  exact h
theorem pe_callOG (O : HasG X.prog X.w X.K X.mg X.base CX k x ps sp) (hgs : X.A.guards = some []) (hr : Room j X.A) (hg : Gl X x) (hx : Passes CX X E) (ha : PA X (e :: es) t) (hjk : k ≤ j := by decide)
    (hdb : (x == ("__debug__" : Str)) = false := by decide) (he : starEach (e :: es) X.env = (false, eval e X.env) :: starEach es X.env := by rfl) (hpl : (backTo pos (starEach es X.env)).any (·.1) = false := by rfl) :
    PE X (.Call (.Name x p) (e :: es) [] pos) (tCallO sp E t) := by
  obtain ⟨f, fd, F, hm, hk, hb⟩ := O
  have q := pe_callG (E := E) (dvs := []) (ds := []) (p := p) (pos := pos) F hgs (hr.mono hjk) hg hm hk hb .nil hx ha hdb he hpl
  refine ⟨fun pins s σ H Q I h => q.run pins s σ H Q I ?_⟩
  have e : (fun (vs : List V) H1 => sp (vs ++ []) H1 Q E) = fun vs H1 => sp vs H1 Q E := by
    funext vs H1
    rw [List.append_nil]
  show t σ H (fun vs H1 => sp (vs ++ []) H1 Q E)
  rw [e]
  exact h
end
end L2

set_option Elab.async false
set_option linter.all false
set_option maxRecDepth 100000
set_option maxHeartbeats 2000000
/-! XW: an error class's facts, asked of the written part by one check. -/
namespace L2
open PySem PySem.Spec PyProof.Rows
/-- an own error class by its name -/
structure Xc (P : Program) (w : World) (K : PySem.W.Frag) (mg : Str → Option Value) (x : Str) (C : Addr) (fs : List Str) : Prop where
  gC : mg x = some (.ref C)
  kC : PySem.W.keepIn K (.ref C) = true
  mkc : PySem.XS.MkC P w K mg C fs
  isb : isB K C = true
  xf : XfC K C
  nf : ∀ f ∈ fs, PySem.W.findIn K (.ref C) f = some none
  ra : PySem.W.subIn K (.ref C) (.type "BaseException") = some true ∧ PySem.W.typeIn K (.ref C) = some (.type "type")
def ownB (K : PySem.W.Frag) (C fI : Addr) (newId B initId : String) (bmB : List Value) (fs : List Str) : Bool :=
  PySem.W.excInitIn K C bmB newId && (PySem.W.excOver K C bmB && (PySem.W.hasDictIn K C && (decide (PySem.W.findIn K (.ref C) "__setattr__" = some (some (.builtin "object.__setattr__"))) && (decide (PySem.W.findIn K (.ref C) "__init__" = some (some (.ref fI))) && (PySem.W.isFn K (.ref fI) && (PySem.W.keepIn K (.ref C) &&
  (decide (PySem.W.ks_superIn K C C "__init__" = some (some (.builtin initId))) && (decide (PySem.W.mroIn K C (.ref C) = some true) && (decide (PySem.W.subIn K (.ref C) (.type B) = some true) && (decide (PySem.W.nsIn K cStatics "thirdparty.any" = some none) && (decide (PySem.W.nsIn K mainGlobals "super" = some none) && (isB K C && (xfB K C && (fs.all (fun f => decide (PySem.W.findIn K (.ref C) f = some none)) && decide (PySem.W.typeIn K (.ref C) = some (.type "type"))))))))))))))))
section
variable {P : Program} {w : World} {K : PySem.W.Frag} {h : Heap} {mg : Str → Option Value} {x qual : Str} {st : Stmt} {C fI cc cda : Addr} {Bn newId iN B initId : String} {bmN bmB : List Value} {fs : List Str}
variable {oc doc pm ct cl ccl : Value} {od an cld cdd : Option Addr} {osl csl ccs : Array (Option Value)} {vs : Array Value} {file : Str} {tf : Tok}
theorem own_of {params : Arguments} {body : List Stmt} {scope : Scope} (b : ownB K C fI newId B initId bmB fs = true) (top : (P.main.scope.names.lookup ("super" : Str)).isSome = false)
    (l : K.lookup fI = some ⟨oc, od, .func (PySem.W.ksFn "__init__" qual params body scope .none .none doc pm an (.ref cda) ct cc), osl⟩) (cd : PySem.W.codeIn K (.ref cda) qual = true)
    (lc : K.lookup cc = some ⟨cl, cld, .cell (some (.ref C)), csl⟩) (la : K.lookup cda = some ⟨ccl, cdd, .fields vs, ccs⟩) (hv : vs[2]? = some (.str file tf)) (hf : ((P.main.file : Str) == file) = true) :
    PySem.XS.Own P K C fI cc cda newId B initId bmB qual params body scope ∧ PySem.W.keepIn K (.ref C) = true ∧ isB K C = true ∧ XfC K C ∧ (∀ f ∈ fs, PySem.W.findIn K (.ref C) f = some none) ∧ PySem.W.nsIn K mainGlobals "super" = some none ∧ PySem.W.typeIn K (.ref C) = some (.type "type") := by
  obtain ⟨b1, b⟩ := Bool.and_eq_true_iff.mp b
  obtain ⟨b2, b⟩ := Bool.and_eq_true_iff.mp b
  obtain ⟨b3, b⟩ := Bool.and_eq_true_iff.mp b
  obtain ⟨b4, b⟩ := Bool.and_eq_true_iff.mp b
  obtain ⟨b5, b⟩ := Bool.and_eq_true_iff.mp b
  obtain ⟨b6, b⟩ := Bool.and_eq_true_iff.mp b
  obtain ⟨b7, b⟩ := Bool.and_eq_true_iff.mp b
  obtain ⟨b8, b⟩ := Bool.and_eq_true_iff.mp b
  obtain ⟨b9, b⟩ := Bool.and_eq_true_iff.mp b
  obtain ⟨b10, b⟩ := Bool.and_eq_true_iff.mp b
  obtain ⟨b11, b⟩ := Bool.and_eq_true_iff.mp b
  obtain ⟨b12, b⟩ := Bool.and_eq_true_iff.mp b
  obtain ⟨b13, b⟩ := Bool.and_eq_true_iff.mp b
  obtain ⟨b14, b⟩ := Bool.and_eq_true_iff.mp b
  obtain ⟨b15, b16⟩ := Bool.and_eq_true_iff.mp b
  exact ⟨⟨b1, b2, b3, of_decide_eq_true b4, of_decide_eq_true b5, b6, b7, of_decide_eq_true b8, of_decide_eq_true b9, of_decide_eq_true b10, of_decide_eq_true b11, ⟨_, _, _, lc⟩, ⟨_, _, _, _, _, _, la, hv, hf⟩, top, ⟨_, _, _, _, _, _, _, l, cd⟩⟩, b7, b13, xfB_ok b14,
    fun f hf => of_decide_eq_true (List.all_eq_true.mp b15 f hf), of_decide_eq_true b12, of_decide_eq_true b16⟩
open PySem.XS
variable {txt : Str} {j : Nat} {a0 a1 a2 p0 p1 p2 p3 p4 p5 q1 q2 q3 q4 r1 r2 r3 r4 : Pos}
theorem xc0 (T : Bas Bn newId iN bmN B initId bmB) (X : K.In h) (G : h.Ns mainGlobals mg) (aC : PySem.W.nsIn K mainGlobals x = some (some (.ref C)))
    (l : K.lookup fI = some ⟨oc, od, .func (PySem.W.ksFn "__init__" qual (defArgs st) (defBody st) (defScope st) .none .none doc pm an (.ref cda) ct cc), osl⟩)
    (lc : K.lookup cc = some ⟨cl, cld, .cell (some (.ref C)), csl⟩) (la : K.lookup cda = some ⟨ccl, cdd, .fields vs, ccs⟩) (cd : PySem.W.codeIn K (.ref cda) qual = true) (b : ownB K C fI newId B initId bmB [] = true)
    (hv : vs[2]? = some (.str file tf)) (hf : ((P.main.file : Str) == file) = true) (top : (P.main.scope.names.lookup ("super" : Str)).isSome = false)
    (e1 : defArgs st = iArgs [aSelf a0]) (e2 : defBody st = [iSup txt j p0 p1 p2 p3 p4 p5]) (e3 : defScope st = iSc []) (hp : (p2.endLine == p4.line) = true) : Xc P w K mg x C [] := by
  rw [e1, e2, e3] at l
  obtain ⟨Z, k, i, f, n, s, ty⟩ := own_of b top l cd lc la hv hf
  exact ⟨PySem.W.mg_of X G aC, k, mkC0 T Z (PySem.W.mg_none_of X G s) hp, i, f, n, f.exC, ty⟩
theorem xc1 {f : Str} (T : Bas Bn newId iN bmN B initId bmB) (X : K.In h) (G : h.Ns mainGlobals mg) (aC : PySem.W.nsIn K mainGlobals x = some (some (.ref C)))
    (l : K.lookup fI = some ⟨oc, od, .func (PySem.W.ksFn "__init__" qual (defArgs st) (defBody st) (defScope st) .none .none doc pm an (.ref cda) ct cc), osl⟩)
    (lc : K.lookup cc = some ⟨cl, cld, .cell (some (.ref C)), csl⟩) (la : K.lookup cda = some ⟨ccl, cdd, .fields vs, ccs⟩) (cd : PySem.W.codeIn K (.ref cda) qual = true) (b : ownB K C fI newId B initId bmB [f] = true)
    (hv : vs[2]? = some (.str file tf)) (hf : ((P.main.file : Str) == file) = true) (top : (P.main.scope.names.lookup ("super" : Str)).isSome = false)
    (e1 : defArgs st = iArgs [aSelf a0, aPar f a1]) (e2 : defBody st = [iSup txt j p0 p1 p2 p3 p4 p5, iPut f q1 q2 q3 q4]) (e3 : defScope st = iSc [f]) (hp : (p2.endLine == p4.line) = true)
    (f1 : f ≠ "self") (f2 : f ≠ "super") (f3 : f ≠ "__class__") (f4 : (f == ("__debug__" : Str)) = false) (hb : Bd qual (iArgs [aSelf a0, aPar f a1]) [iSup txt j p0 p1 p2 p3 p4 p5, iPut f q1 q2 q3 q4] (iSc [f]) [f]) : Xc P w K mg x C [f] := by
  rw [e1, e2, e3] at l
  obtain ⟨Z, k, i, xf, n, s, ty⟩ := own_of b top l cd lc la hv hf
  exact ⟨PySem.W.mg_of X G aC, k, mkC1 T Z (PySem.W.mg_none_of X G s) hp f1 f2 f3 f4 (n f (by simp)) hb, i, xf, n, xf.exC, ty⟩
theorem xc2 {f g : Str} (T : Bas Bn newId iN bmN B initId bmB) (X : K.In h) (G : h.Ns mainGlobals mg) (aC : PySem.W.nsIn K mainGlobals x = some (some (.ref C)))
    (l : K.lookup fI = some ⟨oc, od, .func (PySem.W.ksFn "__init__" qual (defArgs st) (defBody st) (defScope st) .none .none doc pm an (.ref cda) ct cc), osl⟩)
    (lc : K.lookup cc = some ⟨cl, cld, .cell (some (.ref C)), csl⟩) (la : K.lookup cda = some ⟨ccl, cdd, .fields vs, ccs⟩) (cd : PySem.W.codeIn K (.ref cda) qual = true) (b : ownB K C fI newId B initId bmB [f, g] = true)
    (hv : vs[2]? = some (.str file tf)) (hf : ((P.main.file : Str) == file) = true) (top : (P.main.scope.names.lookup ("super" : Str)).isSome = false)
    (e1 : defArgs st = iArgs [aSelf a0, aPar f a1, aPar g a2]) (e2 : defBody st = [iSup txt j p0 p1 p2 p3 p4 p5, iPut f q1 q2 q3 q4, iPut g r1 r2 r3 r4]) (e3 : defScope st = iSc [f, g]) (hp : (p2.endLine == p4.line) = true)
    (f1 : f ≠ "self") (f2 : f ≠ "super") (f3 : f ≠ "__class__") (f4 : (f == ("__debug__" : Str)) = false) (g1 : g ≠ "self") (g2 : g ≠ "super") (g3 : g ≠ "__class__") (g4 : (g == ("__debug__" : Str)) = false) (fg : f ≠ g)
    (hb : Bd qual (iArgs [aSelf a0, aPar f a1, aPar g a2]) [iSup txt j p0 p1 p2 p3 p4 p5, iPut f q1 q2 q3 q4, iPut g r1 r2 r3 r4] (iSc [f, g]) [f, g]) : Xc P w K mg x C [f, g] := by
  rw [e1, e2, e3] at l
  obtain ⟨Z, k, i, xf, n, s, ty⟩ := own_of b top l cd lc la hv hf
  exact ⟨PySem.W.mg_of X G aC, k, mkC2 T Z (PySem.W.mg_none_of X G s) hp f1 f2 f3 f4 (n f (by simp)) g1 g2 g3 g4 (n g (by simp)) fg hb, i, xf, n, xf.exC, ty⟩
end
end L2

set_option Elab.async false
set_option linter.all false
set_option maxRecDepth 100000
set_option maxHeartbeats 2000000
/-! OP: the operators of own classes: +, - , *, unary -, ==, bool(x), str(x), len(x). -/
namespace L2
open PySem PySem.Spec PyProof.Rows
/-- the class at C has the method m, which keeps the promise sp -/
def HasM (P : Program) (w : World) (K : PySem.W.Frag) (mg : Str → Option Value) (base : Heap) (CX : CXT) (k : Nat) (C : Addr) (m : Str) (ps : List Str) (sp : Sp) : Prop :=
  ∃ f fd, FnOk P w K mg base CX k f fd ps sp ∧ PySem.W.findIn K (.ref C) m = some (some (.ref f)) ∧ PySem.W.isFn K (.ref f) = true ∧ PySem.W.keepIn K (.ref f) = true ∧ Binds K fd ps []
/-- a method of the text as it stands in its class -/
def DefM (K : PySem.W.Frag) (C : Addr) (m qual : Str) (st : Stmt) : Prop := ∃ f fd, Fun K m qual st f fd ∧ PySem.W.findIn K (.ref C) m = some (some (.ref f)) ∧ PySem.W.isFn K (.ref f) = true
theorem defM_mk {K : PySem.W.Frag} {C : Addr} {m qual : Str} {st : Stmt} {f : Addr} {oc : Value} {od an : Option Addr} {osl : Array (Option Value)} {kV doc pm cdv ct : Value}
    (a : PySem.W.findIn K (.ref C) m = some (some (.ref f))) (i : PySem.W.isFn K (.ref f) = true) (l : K.lookup f = some ⟨oc, od, .func (PySem.W.fnOf m qual (defArgs st) (defBody st) (defScope st) .none kV doc pm an cdv ct), osl⟩)
    (c : PySem.W.codeIn K cdv qual = true) (k : PySem.W.keepIn K (.ref f) = true) : DefM K C m qual st := ⟨f, _, fun_mk (st := st) l c k, a, i⟩
section
variable {X : Cx} {CX : CXT} {k j : Nat} {C : Addr} {m : Str} {ps : List Str} {sp : Sp} {E : XK}
theorem run_at {A : Around} {f : Addr} {fd : FuncData} {pins : List (Addr × Obj)} {σ : St} {H : Hp} {s : Shared} {Q : VK} {us : List Value} {vs : List V} (hA : A.frames = X.A.frames) (F : FnOk X.prog X.w X.K X.mg X.base CX k f fd ps sp) (hr : Room k A) (hb : Binds X.K fd ps []) (hx : Passes CX X E)
    (I : Inv X pins σ H s) (r : Vals vs us) (h : sp vs H Q E) : wpAny (model X.prog X.w) A (call (.ref f) us) (EP X pins σ Q) X.xe s := by
  have e := I.env0
  have e0 : Env0 X.prog X.w X.K X.mg X.base A X.stack s H := ⟨by rw [hA]; exact e.frames, e.mod, e.bs, e.bsz, e.funs, e.frf, e.hok, e.bare⟩
  have hl : us.length = ps.length := r.length.symm.trans (F.len _ _ _ _ h)
  have b := hb s us I.kIn (by simpa using hl)
  rw [List.append_nil] at b
  refine wpAny_call (codeAny_mono (F.run A X.stack s H ⟨us, []⟩ us vs Q E hr e0 b r h) fun r s' hq => ?_)
  match r, hq with
  | .error e, hq => exact hx pins σ H s e s' I hq
  | .ok (.ret u), hq => exact I.after hq
  | .ok .next, hq => exact False.elim hq
  | .ok .brk, hq => exact False.elim hq
  | .ok .cont, hq => exact False.elim hq
theorem RelV.notNI {x : V} {u : Value} (r : RelV x u) : u ≠ .notImplemented := by
  cases x <;> intro e <;> subst e <;> first | (obtain ⟨_, q⟩ := r; cases q) | cases r
theorem cmpBack_of {pins : List (Addr × Obj)} {σ : St} {Q : VK} {u : Value} {s' : Shared} (h : EP X pins σ Q u s') : PySem.W.CmpBack (EP X pins σ Q) u s' := by
  obtain ⟨v, H', I, r, q⟩ := h
  have n := r.notNI
  unfold PySem.W.CmpBack
  split
  · exact absurd rfl n
  · exact ⟨v, H', I, r, q⟩
/-- x op y of two instances of the class -/
def rOwn2 (C : Addr) (sp : Sp) (E : XK) : R2 := fun x y H Q => ∃ a b dx dy fs gs, x = .ref a ∧ y = .ref b ∧ H a = some (.ins C dx fs) ∧ H b = some (.ins C dy gs) ∧ sp [.ref a, .ref b] H Q E
theorem op_own {op : Operator} (O : HasM X.prog X.w X.K X.mg X.base CX k C m ps sp) (hc : PySem.W.selfFirst X.K C = true) (hr : Room j X.A) (hx : Passes CX X E) (e : PySem.dunder op.info.2 = m := by rfl) (hjk : k ≤ j := by decide) : OpR X (binaryOp op) (rOwn2 C sp E) := by
  obtain ⟨f, fd, F, hs, hf, hk, hb⟩ := O
  subst e
  intro pins s σ H x y v u Q I rx ry h
  obtain ⟨a, b, dx, dy, fs, gs, rfl, rfl, ha, hb', q⟩ := h
  cases rx
  cases ry
  obtain ⟨mA, J, _⟩ := ins_get I.hok ha
  obtain ⟨mB, J', _⟩ := ins_get I.hok hb'
  obtain ⟨od, J, _⟩ := J.look
  obtain ⟨od', J', _⟩ := J'.look
  obtain ⟨m, hF⟩ := I.fr
  refine PySem.W.binop_K hF I.ok.mod.kin J J'.type hc hs hf ?_
  exact wpAny_mono (run_at rfl F (hr.mono hjk) hb hx I (vs := [.ref a, .ref b]) (us := [.ref a, .ref b]) (.cons rfl (.cons rfl .nil)) q) (fun _ _ z => cmpBack_of z) fun _ _ z => z
/-- -x -/
def rOwn1 (C : Addr) (sp : Sp) (E : XK) : V → Hp → VK → Prop := fun x H Q => ∃ a dx fs, x = .ref a ∧ H a = some (.ins C dx fs) ∧ sp [.ref a] H Q E
theorem un_own (O : HasM X.prog X.w X.K X.mg X.base CX k C "__neg__" ps sp) (hr : Room j X.A) (hx : Passes CX X E) (hjk : k ≤ j := by decide) : UnR X (unaryOp .USub) (rOwn1 C sp E) := by
  obtain ⟨f, fd, F, hs, hf, hk, hb⟩ := O
  intro pins s σ H x u Q I rx h
  obtain ⟨a, dx, fs, rfl, ha, q⟩ := h
  cases rx
  obtain ⟨mA, J, _⟩ := ins_get I.hok ha
  obtain ⟨od, J, _⟩ := J.look
  obtain ⟨m, hF⟩ := I.fr
  exact PySem.W.ksp_neg hF I.ok.mod.kin J hs hf (run_at rfl F (hr.mono hjk) hb hx I (vs := [.ref a]) (us := [.ref a]) (.cons rfl .nil) q)
/-- x == y, x an instance of the class, y anything -/
def rOwnEq (K : PySem.W.Frag) (C : Addr) (sp : Sp) (E : XK) : R2 := fun x y H Q => ∃ a dx fs t, x = .ref a ∧ H a = some (.ins C dx fs) ∧ TyX K H y t ∧ PySem.W.notFirst K C t = true ∧ sp [.ref a, y] H Q E
theorem op_ownEq (O : HasM X.prog X.w X.K X.mg X.base CX k C "__eq__" ps sp) (hr : Room j X.A) (hx : Passes CX X E) (hjk : k ≤ j := by decide) : OpR X (compareOp .Eq) (rOwnEq X.K C sp E) := by
  obtain ⟨f, fd, F, hs, hf, hk, hb⟩ := O
  intro pins s σ H x y v u Q I rx ry h
  obtain ⟨a, dx, fs, t, rfl, ha, ty, nf, q⟩ := h
  cases rx
  obtain ⟨mA, J, _⟩ := ins_get I.hok ha
  obtain ⟨od, J, _⟩ := J.look
  obtain ⟨m, hF⟩ := I.fr
  obtain ⟨P, Z, p, _⟩ := kit_of I ry ty
  show wpAny (model X.prog X.w) X.A (richCompare .Eq (.ref a) u) (EP X pins σ Q) X.xe s
  refine PySem.W.cmp_K (op := .Eq) hr.units0 hF I.ok.mod.kin J (Z.ty _ _ I.kIn p) nf hs hf ?_
  exact wpAny_mono (run_at rfl F (hr.mono hjk) hb hx I (vs := [.ref a, y]) (us := [.ref a, u]) (.cons rfl (.cons ry .nil)) q) (fun _ _ z => cmpBack_of z) fun _ _ z => z
/-- str(x): __str__ gives a text -/
def rOwnStr (C : Addr) (sp : Sp) (E : XK) : List V → Hp → VK → Prop := fun xs H Q => ∃ a dx fs, xs = [.ref a] ∧ H a = some (.ins C dx fs) ∧ sp [.ref a] H (fun v H' => ∃ z, v = .str z ∧ Q v H') E
theorem call_ownStr (O : HasM X.prog X.w X.K X.mg X.base CX k C "__str__" ps sp) (hr : Room j X.A) (hx : Passes CX X E) (hjk : k + 1 ≤ j := by decide) : CallR X (.type "str") (rOwnStr C sp E) := by
  obtain ⟨f, fd, F, hs, hf, hk, hb⟩ := O
  intro pins s σ H xs us Q I r h
  obtain ⟨a, dx, fs, rfl, ha, q⟩ := h
  obtain ⟨u, rfl, rx⟩ := vals1 r
  cases rx
  obtain ⟨mA, J, _⟩ := ins_get I.hok ha
  obtain ⟨od, J, _⟩ := J.look
  have rm : Room k X.A.in1.in1 := by
    have r1 := hr.mono hjk
    exact ⟨r1.hd, by have := r1.dp; show X.A.depth + 3 * k + 5 < _; omega, by have := r1.un; show X.A.units + 1 + 1 + 16 * k + 200 < _; omega⟩
  refine PySem.W.kso_call (by have := rm.un; omega) I.kIn J hs hf ?_
  refine wpAny_mono (run_at rfl F rm hb hx I (vs := [.ref a]) (us := [.ref a]) (.cons rfl .nil) q) (fun u s' z => ?_) fun _ _ z => z
  obtain ⟨v, H', I', rv, z, rfl, q'⟩ := z
  obtain ⟨t, rfl⟩ := rv
  exact ⟨.str z, H', I', ⟨t, rfl⟩, q'⟩
/-- bool(x): __bool__ gives a truth -/
theorem call_boolOwn {prog : Program} {w : World} {A : Around} {E : Value → Shared → Prop} {s : Shared} {K : PySem.W.Frag} {x C f L : Addr} {h₀ : Heap} {m : Str → Option Value} {ox : Obj} {od : Option Obj} {Q : Value → Shared → Prop} (F : Fr h₀ L s.heap m) (X₀ : K.In h₀) (I : PySem.W.InstAt s.heap x ox C od)
    (hs : PySem.W.findIn K (.ref C) "__bool__" = some (some (.ref f))) (hf : PySem.W.isFn K (.ref f) = true)
    (h : wpAny (model prog w) A.in1.in1 (call (.ref f) [.ref x]) (PySem.W.BoolBack fun b s' => Q (.bool b) s') E s) : wpAny (model prog w) A (call (.type "bool") [.ref x]) Q E s := by
  refine callType_codes (T := "bool") (Bi := Builtin.«object.__init__») (Q₁ := fun r s₁ => ∃ b, r = .bool b ∧ Q r s₁) PySem.F.called_bool (PySem.F.typeCall_bool_1 _) PySem.F.entry_object_init ?_ ?_
  · refine codeAny_of_tree ?_
    show wpAny _ A.in1.in1 (do checkBuiltinCall "bool.__new__" ⟨[.type "bool", .ref x], []⟩; again (.builtin "bool.__new__" ⟨[.type "bool", .ref x], []⟩)) _ _ s
    refine wpAny_bind (wpAny_of_eq (PySem.F.newCall_bool_1 _) (wpAny_pure ⟨plainId_quiet (by decide +kernel) _, codeAny_builtin PySem.F.entry_bool_new ?_⟩))
    rw [Around.under_plainId (by decide +kernel) _]
    have f1 := PySem.F.conv_sub_bool
    have tr : ∀ {Q' : Bool → Shared → Prop} {E' : Value → Shared → Prop}, wpAny (model prog w) A.in1.in1 (call (.ref f) [.ref x]) (PySem.W.BoolBack Q') E' s → wpAny (model prog w) A.in1.in1 (truthy (.ref x)) Q' E' s := fun z => PySem.W.truthy_K F X₀ I hs hf z
    obtain ⟨hp, g, d, tk, os⟩ := s
    repeat (any_goals (first | assumption | (with_reducible refine tr (wpAny_mono h (fun r s₁ hr => ?_) fun _ _ y => y)) | wp_step))
    cases r <;> first | exact hr.elim | skip
    rename_i b
    show wpAny _ _ _ _ _ _
    exact wpAny_pure ⟨b, rfl, hr⟩
  · rintro obj s₁ ⟨b, rfl, hq⟩
    have tb : s₁.TypeIs (.bool b) "bool" := by first | exact typeIs_bool _ _ | rfl
    exact ⟨tb, PySem.F.args_object_init_2 _ _, object_init_meets PySem.F.called_bool.init.lookup PySem.F.called_bool.made (by decide) prog w A.in1 _ s₁ ⟨tb, rfl, hq⟩⟩
/-- bool(x) -/
def rOwnBool (C : Addr) (sp : Sp) (E : XK) : List V → Hp → VK → Prop := fun xs H Q => ∃ a dx fs, xs = [.ref a] ∧ H a = some (.ins C dx fs) ∧ sp [.ref a] H (fun v H' => ∃ z, v = .bl z ∧ Q v H') E
theorem call_ownBool (O : HasM X.prog X.w X.K X.mg X.base CX k C "__bool__" ps sp) (hr : Room j X.A) (hx : Passes CX X E) (hjk : k + 1 ≤ j := by decide) : CallR X (.type "bool") (rOwnBool C sp E) := by
  obtain ⟨f, fd, F, hs, hf, hk, hb⟩ := O
  intro pins s σ H xs us Q I r h
  obtain ⟨a, dx, fs, rfl, ha, q⟩ := h
  obtain ⟨u, rfl, rx⟩ := vals1 r
  cases rx
  obtain ⟨mA, J, _⟩ := ins_get I.hok ha
  obtain ⟨od, J, _⟩ := J.look
  obtain ⟨m, hF⟩ := I.fr
  have rm : Room k X.A.in1.in1 := by
    have r1 := hr.mono hjk
    exact ⟨r1.hd, by have := r1.dp; show X.A.depth + 3 * k + 5 < _; omega, by have := r1.un; show X.A.units + 1 + 1 + 16 * k + 200 < _; omega⟩
  refine call_boolOwn hF I.ok.mod.kin J hs hf ?_
  refine wpAny_mono (run_at rfl F rm hb hx I (vs := [.ref a]) (us := [.ref a]) (.cons rfl .nil) q) (fun u s' z => ?_) fun _ _ z => z
  obtain ⟨v, H', I', rv, z, rfl, q'⟩ := z
  cases rv
  exact ⟨.bl z, H', I', rfl, q'⟩
end
end L2

set_option Elab.async false
set_option linter.all false
set_option maxRecDepth 100000
set_option maxHeartbeats 2000000
/-! TX: text * int, // by any divisor, classes and methods by their names. -/
namespace L2
open PySem PySem.Spec PyProof.Rows
section
variable {X : Cx}
def rMulS : R2 := fun x y H Q => ∃ (z : Str) (n : Int), x = .str z ∧ y = .int n ∧ MulOk z n ∧ Q (.str (Txt.mul z n)) H
theorem op_mulS : OpR X (binaryOp .Mult) rMulS := by
  intro pins s σ H x y v u Q I rx ry h
  obtain ⟨z, n, rfl, rfl, hok, q⟩ := h
  obtain ⟨t, rfl⟩ := rx
  obtain ⟨t', rfl⟩ := ry
  exact PySem.SB.mul hok fun t k => ⟨.str _, H, I.tok _, ⟨_, rfl⟩, q⟩
/-- // by any divisor but 0, below 2 ^ 9000 in size -/
def CDivZ (_ j : Int) : Prop := j ≠ 0 ∧ j.natAbs.log2 < 9000
theorem op_fdivZ : OpR X (binaryOp .FloorDiv) (rI CDivZ fun i j => .int (i.fdiv j)) := opI fun i j _ _ _ _ _ hc q => floordiv_int hc.1 q (.inl (PyProof.noPylong_of_log2 hc.2))
end
/-- the class x stands at C; its __init__ keeps the promise sp; dvs: the defaults that fill up -/
def HasC (P : Program) (w : World) (K : PySem.W.Frag) (mg : Str → Option Value) (base : Heap) (CX : CXT) (k : Nat) (C : Addr) (x : Str) (ps : List Str) (dvs : List V) (sp : Sp) : Prop :=
  ∃ f fd ds, FnOk P w K mg base CX k f fd ps sp ∧ Mk K C f ∧ mg x = some (.ref C) ∧ Binds K fd ps ds ∧ Vals dvs ds
def tMakeO (C : Addr) (sp : Sp) (dvs : List V) (E : St → XK) (t : TA) : TE := fun σ H Q => t σ H fun vs H1 => ∀ x dx, H1 x = none → H1 dx = none → dx ≠ x →
  sp (.ref x :: (vs ++ dvs)) (upd (upd H1 dx (.own x)) x (.ins C dx [])) (fun v H2 => v = .non ∧ Q (.ref x) H2) (E σ)
section
variable {X : Cx} {CX : CXT} {k j : Nat} {C f : Addr} {fd : FuncData} {ps : List Str} {sp : Sp} {dvs : List V} {ds : List Value} {E : St → XK} {x m : Str} {p pos apos : Pos} {e o : Expr} {es : List Expr} {ta : TE} {t : TA}
theorem run_makeS {pins : List (Addr × Obj)} {σ : St} {H : Hp} {s : Shared} {Q : VK} {us : List Value} {vs : List V} (M : Mk X.K C f) (F : FnOk X.prog X.w X.K X.mg X.base CX k f fd ps sp) (hr : Room (k + 1) X.A) (hb : Binds X.K fd ps ds) (hd : Vals dvs ds)
    (hx : PassesAt CX X σ (E σ)) (I : Inv X pins σ H s) (r : Vals vs us)
    (h : ∀ x dx, H x = none → H dx = none → dx ≠ x → sp (.ref x :: (vs ++ dvs)) (upd (upd H dx (.own x)) x (.ins C dx [])) (fun v H2 => v = .non ∧ Q (.ref x) H2) (E σ)) :
    wpAny (model X.prog X.w) X.A (call (.ref C) us) (EP X pins σ Q) X.xe s := by
  have q := h (s.heap.objs.size + 1) s.heap.objs.size (I.hok.fresh (Nat.le_succ _)) (I.hok.fresh (Nat.le_refl _)) (Nat.ne_of_lt (Nat.lt_succ_self _))
  have J := Inv.made (C := C) I
  have rr : Vals (V.ref (s.heap.objs.size + 1) :: (vs ++ dvs)) (Value.ref (s.heap.objs.size + 1) :: (us ++ ds)) := .cons rfl (r.append hd)
  have hl : (Value.ref (s.heap.objs.size + 1) :: us ++ ds).length = ps.length := rr.length.symm.trans (F.len _ _ _ _ q)
  refine wpAny_call (make_map (f := f) I.kIn M.makes M.init (beq_iff_eq.mp M.fn) (codeAny_mono (F.run _ X.stack _ _ ⟨Value.ref (s.heap.objs.size + 1) :: us, []⟩ (Value.ref (s.heap.objs.size + 1) :: (us ++ ds)) _ _ (E σ) (hr.make C us [])
    (J.env0.make C us []) (hb _ (Value.ref (s.heap.objs.size + 1) :: us) J.kIn hl) rr q) fun r s' hq => ?_))
  match r, hq with
  | .error e, hq => exact hx pins _ _ e s' J hq
  | .ok (.ret u), hq =>
    obtain ⟨v, H', J', rv, ev, q'⟩ := J.after hq
    subst ev
    exact ⟨rv, ⟨V.ref (s.heap.objs.size + 1), H', J', rfl, q'⟩⟩
  | .ok .next, hq => exact False.elim hq
  | .ok .brk, hq => exact False.elim hq
  | .ok .cont, hq => exact False.elim hq
theorem pe_makeS (O : HasC X.prog X.w X.K X.mg X.base CX k C x ps dvs sp) (hr : Room j X.A) (hg : Gl X x) (hx : ∀ σ, PassesAt CX X σ (E σ)) (ha : PA X (e :: es) t) (hjk : k + 1 ≤ j := by decide)
    (hdb : (x == ("__debug__" : Str)) = false := by decide) (he : starEach (e :: es) X.env = (false, eval e X.env) :: starEach es X.env := by rfl) (hpl : (backTo pos (starEach es X.env)).any (·.1) = false := by rfl) :
    PE X (.Call (.Name x p) (e :: es) [] pos) (tMakeO C sp dvs E t) := by
  obtain ⟨f, fd, ds, F, M, hm, hb, hd⟩ := O
  refine ⟨fun pins s σ H Q I h => ?_⟩
  refine wpAny_Call_Name_kw (ld_glob I hg hm ?_ hdb)
  exact PySem.W.callWith_K (h₀ := X.base) I.ok.mod.kin M.kp (thn (ha.run pos pins s σ H _ I h) fun us s1 ⟨vs, H1, I1, r, q⟩ => ⟨I1.kIn, run_makeS M F (hr.mono hjk) hb hd (hx σ) I1 r q⟩) he hpl
/-- nothing is let out -/
theorem passS {X : Cx} : ∀ σ, PassesAt (L2.CX X.prog X.w) X σ ((fun _ => E0) σ) := fun σ pins H s e s' I h => passL pins σ H s e s' I h
theorem pass0S {X : Cx} : ∀ σ, PassesAt CX0 X σ ((fun _ => E0) σ) := fun _ _ _ _ _ _ _ h => h.elim
def tMethO (C : Addr) (m : Str) (sp : Sp) (E : XK) (ta : TE) (t : TA) : TE := fun σ H Q => ta σ H fun x H1 => ∃ a dx fs, x = .ref a ∧ H1 a = some (.ins C dx fs) ∧ fs.lookup m = none ∧ t σ H1 fun vs H2 => sp (x :: vs) H2 Q E
theorem pe_methO {E : XK} {pl : Sem Bool} (he : PE X o ta) (c : Cls X.K C) (O : HasM X.prog X.w X.K X.mg X.base CX k C m ps sp) (hr : Room j X.A) (hx : Passes CX X E) (ha : PA X (e :: es) t) (hjk : k ≤ j := by decide)
    (hst : starEach (e :: es) X.env = (false, eval e X.env) :: starEach es X.env := by rfl) (hpl : (backTo pos (starEach es X.env)).any (·.1) = false := by rfl)
    (ht : eval (.Call (.Attribute o m apos) (e :: es) [] pos) X.env = (do
      let ov ← eval o X.env
      standAt apos.atName
      let (f, first) ← holding [ov] (getMethod ov m pl)
      callWith pos f first (backTo pos (starEach (e :: es) X.env)) (backToKw pos (keywordEach [] X.env))) := by rfl) :
    PE X (.Call (.Attribute o m apos) (e :: es) [] pos) (tMethO C m sp E ta t) := by
  obtain ⟨f, fd, F, hs, hf, hk, hb⟩ := O
  have q := pe_meth (E := E) (dvs := []) (ds := []) (pl := pl) (apos := apos) (pos := pos) he c ⟨hs, hf, hk⟩ F (hr.mono hjk) hb .nil hx ha hst hpl ht
  refine ⟨fun pins s σ H Q I h => q.run pins s σ H Q I ?_⟩
  have z : ∀ (x : V), (fun (vs : List V) H1 => sp (x :: (vs ++ [])) H1 Q E) = fun vs H1 => sp (x :: vs) H1 Q E := fun x => by
    funext vs H1
    rw [List.append_nil]
  have z2 : (fun (x : V) H1 => ∃ a dx fs, x = .ref a ∧ H1 a = some (.ins C dx fs) ∧ fs.lookup m = none ∧ t σ H1 fun vs H2 => sp (x :: (vs ++ [])) H2 Q E) = fun x H1 => ∃ a dx fs, x = .ref a ∧ H1 a = some (.ins C dx fs) ∧ fs.lookup m = none ∧ t σ H1 fun vs H2 => sp (x :: vs) H2 Q E := by
    funext x H1
    rw [z x]
  show ta σ H (fun (x : V) H1 => ∃ a dx fs, x = .ref a ∧ H1 a = some (.ins C dx fs) ∧ fs.lookup m = none ∧ t σ H1 fun vs H2 => sp (x :: (vs ++ [])) H2 Q E)
  rw [z2]
  exact h
end
end L2

set_option linter.all false
/-! RM: fractions in lowest terms, plain. -/
namespace Rat3
/-- the greatest common part -/
def gc (p q : Int) : Int := (Nat.gcd p.natAbs q.natAbs : Nat)
def pt (p q : Int) : Int := if 0 < q then gc p q else -(gc p q)
def low (p q : Int) : Int × Int := (p.fdiv (pt p q), q.fdiv (pt p q))
def Low (a b : Int) : Prop := 0 < b ∧ Nat.gcd a.natAbs b.natAbs = 1
theorem gc_pos {p q : Int} (h : q ≠ 0) : 0 < gc p q := by
  unfold gc
  have : 0 < Nat.gcd p.natAbs q.natAbs := Nat.gcd_pos_of_pos_right _ (by omega)
  omega
theorem pt_ne {p q : Int} (h : q ≠ 0) : pt p q ≠ 0 := by
  have := gc_pos (p := p) h
  unfold pt
  split <;> omega
theorem gc_dvd_l (p q : Int) : gc p q ∣ p := by
  unfold gc
  exact Int.ofNat_dvd_left.mpr (Nat.gcd_dvd_left _ _)
theorem gc_dvd_r (p q : Int) : gc p q ∣ q := by
  unfold gc
  exact Int.ofNat_dvd_left.mpr (Nat.gcd_dvd_right _ _)
theorem pt_dvd_l (p q : Int) : pt p q ∣ p := by
  unfold pt
  split
  · exact gc_dvd_l p q
  · exact Int.neg_dvd.mpr (gc_dvd_l p q)
theorem pt_dvd_r (p q : Int) : pt p q ∣ q := by
  unfold pt
  split
  · exact gc_dvd_r p q
  · exact Int.neg_dvd.mpr (gc_dvd_r p q)
theorem fdiv_mul {a b : Int} (h : b ∣ a) (hb : b ≠ 0) : a.fdiv b * b = a := by
  obtain ⟨c, rfl⟩ := h
  rw [Int.mul_fdiv_cancel_left _ hb, Int.mul_comm]
theorem low_l {p q : Int} (h : q ≠ 0) : (low p q).1 * pt p q = p := fdiv_mul (pt_dvd_l p q) (pt_ne h)
theorem low_r {p q : Int} (h : q ≠ 0) : (low p q).2 * pt p q = q := fdiv_mul (pt_dvd_r p q) (pt_ne h)
theorem pt_abs (p q : Int) : (pt p q).natAbs = Nat.gcd p.natAbs q.natAbs := by
  unfold pt gc
  split <;> simp
theorem low_low {p q : Int} (h : q ≠ 0) : Low (low p q).1 (low p q).2 := by
  have h1 := low_l (p := p) h
  have h2 := low_r (p := p) h
  have hg := gc_pos (p := p) h
  refine ⟨?_, ?_⟩
  · unfold pt at h2
    split at h2
    · rename_i hq
      have : 0 < (low p q).2 * gc p q := by omega
      exact Int.pos_of_mul_pos_left this hg
    · rename_i hq
      have h3 : 0 < (low p q).2 * gc p q := by
        have : (low p q).2 * -(gc p q) = -((low p q).2 * gc p q) := Int.mul_neg _ _
        omega
      exact Int.pos_of_mul_pos_left h3 hg
  · have e1 : p.natAbs = (low p q).1.natAbs * Nat.gcd p.natAbs q.natAbs := by
      rw [← pt_abs, ← Int.natAbs_mul, h1]
    have e2 : q.natAbs = (low p q).2.natAbs * Nat.gcd p.natAbs q.natAbs := by
      rw [← pt_abs, ← Int.natAbs_mul, h2]
    have hp : 0 < Nat.gcd p.natAbs q.natAbs := Nat.gcd_pos_of_pos_right _ (by omega)
    have e3 : Nat.gcd ((low p q).1.natAbs * Nat.gcd p.natAbs q.natAbs) ((low p q).2.natAbs * Nat.gcd p.natAbs q.natAbs) = Nat.gcd p.natAbs q.natAbs := by
      rw [← e1, ← e2]
    rw [Nat.gcd_mul_right] at e3
    exact Nat.eq_of_mul_eq_mul_right hp (by rw [e3, Nat.one_mul])
theorem low_cross {p q : Int} (h : q ≠ 0) : p * (low p q).2 = (low p q).1 * q := by
  have h1 := low_l (p := p) h
  have h2 := low_r (p := p) h
  calc p * (low p q).2 = (low p q).1 * pt p q * (low p q).2 := by rw [h1]
    _ = (low p q).1 * ((low p q).2 * pt p q) := by rw [Int.mul_assoc, Int.mul_comm (pt p q)]
    _ = (low p q).1 * q := by rw [h2]
theorem uniq {a b c d : Int} (h1 : Low a b) (h2 : Low c d) (e : a * d = c * b) : a = c ∧ b = d := by
  obtain ⟨hb, g1⟩ := h1
  obtain ⟨hd, g2⟩ := h2
  have en : a.natAbs * d.natAbs = c.natAbs * b.natAbs := by rw [← Int.natAbs_mul, ← Int.natAbs_mul, e]
  have d1 : b.natAbs ∣ d.natAbs := by
    have c1 : Nat.Coprime b.natAbs a.natAbs := by unfold Nat.Coprime; rw [Nat.gcd_comm]; exact g1
    exact c1.dvd_of_dvd_mul_left ⟨c.natAbs, by rw [en, Nat.mul_comm]⟩
  have d2 : d.natAbs ∣ b.natAbs := by
    have c1 : Nat.Coprime d.natAbs c.natAbs := by unfold Nat.Coprime; rw [Nat.gcd_comm]; exact g2
    exact c1.dvd_of_dvd_mul_left ⟨a.natAbs, by rw [← en, Nat.mul_comm]⟩
  have eb : b.natAbs = d.natAbs := Nat.dvd_antisymm d1 d2
  have ebd : b = d := by omega
  subst ebd
  exact ⟨Int.eq_of_mul_eq_mul_right (by omega) e, rfl⟩
theorem low_eq {p q a b : Int} (h : q ≠ 0) (hL : Low a b) (e : p * b = a * q) : low p q = (a, b) := by
  have h1 := low_low (p := p) h
  have h2 := low_cross (p := p) h
  have : (low p q).1 * b = a * (low p q).2 := by
    have e1 : (low p q).1 * b * q = a * (low p q).2 * q := by
      calc (low p q).1 * b * q = (low p q).1 * q * b := by rw [Int.mul_assoc, Int.mul_comm b q, ← Int.mul_assoc]
        _ = p * (low p q).2 * b := by rw [h2]
        _ = p * b * (low p q).2 := by rw [Int.mul_assoc, Int.mul_comm _ b, ← Int.mul_assoc]
        _ = a * q * (low p q).2 := by rw [e]
        _ = a * (low p q).2 * q := by rw [Int.mul_assoc, Int.mul_comm q, ← Int.mul_assoc]
    exact Int.eq_of_mul_eq_mul_right h e1
  obtain ⟨x, y⟩ := uniq h1 hL this
  exact Prod.ext x y
theorem low_self {a b : Int} (h : Low a b) : low a b = (a, b) := low_eq (by have := h.1; omega) h rfl
theorem Low.neg {a b : Int} (h : Low a b) : Low (-a) b := ⟨h.1, by rw [Int.natAbs_neg]; exact h.2⟩
theorem low_neg {a b : Int} (h : Low a b) : low (-a) b = (-a, b) := low_self h.neg
theorem Low.one (t : Int) : Low t 1 := ⟨by decide, by simp⟩
theorem low_one (t : Int) : low t 1 = (t, 1) := low_self (Low.one t)
theorem low_scale {p q g : Int} (h : q ≠ 0) (hg : g ≠ 0) : low (p * g) (q * g) = low p q := by
  have h1 := low_low (p := p) h
  have h2 := low_cross (p := p) h
  refine low_eq (Int.mul_ne_zero h hg) h1 ?_
  calc p * g * (low p q).2 = p * (low p q).2 * g := by rw [Int.mul_assoc, Int.mul_comm g, ← Int.mul_assoc]
    _ = (low p q).1 * q * g := by rw [h2]
    _ = (low p q).1 * (q * g) := by rw [Int.mul_assoc]
/-- (x / y) * (u / v), the first in lowest terms -/
theorem low_mul {p q u v : Int} (h : q ≠ 0) (hv : v ≠ 0) : low ((low p q).1 * u) ((low p q).2 * v) = low (p * u) (q * v) := by
  have h1 := low_l (p := p) h
  have h2 := low_r (p := p) h
  have hg := pt_ne (p := p) h
  have hb : (low p q).2 ≠ 0 := fun z => by rw [z] at h2; simp at h2; exact h h2.symm
  have e1 : p * u = (low p q).1 * u * pt p q := by
    rw [Int.mul_assoc, Int.mul_comm u, ← Int.mul_assoc, h1]
  have e2 : q * v = (low p q).2 * v * pt p q := by
    rw [Int.mul_assoc, Int.mul_comm v, ← Int.mul_assoc, h2]
  rw [e1, e2]
  exact (low_scale (Int.mul_ne_zero hb hv) hg).symm
theorem eq_iff {a b c d : Int} (h1 : Low a b) (h2 : Low c d) : (a = c ∧ b = d) ↔ a * d = c * b := ⟨fun ⟨x, y⟩ => by rw [x, y], uniq h1 h2⟩
/-- sizes -/
theorem low_le1 {p q : Int} (h : q ≠ 0) : (low p q).1.natAbs ≤ p.natAbs := by
  have h1 := low_l (p := p) h
  have hg : 0 < (pt p q).natAbs := by have := pt_ne (p := p) h; omega
  have e : p.natAbs = (low p q).1.natAbs * (pt p q).natAbs := by rw [← Int.natAbs_mul, h1]
  rw [e]
  exact Nat.le_mul_of_pos_right _ hg
theorem low_le2 {p q : Int} (h : q ≠ 0) : (low p q).2.natAbs ≤ q.natAbs := by
  have h1 := low_r (p := p) h
  have hg : 0 < (pt p q).natAbs := by have := pt_ne (p := p) h; omega
  have e : q.natAbs = (low p q).2.natAbs * (pt p q).natAbs := by rw [← Int.natAbs_mul, h1]
  rw [e]
  exact Nat.le_mul_of_pos_right _ hg
theorem pt_le {p q : Int} (h : q ≠ 0) : (pt p q).natAbs ≤ q.natAbs := by
  rw [pt_abs]
  exact Nat.le_of_dvd (by omega) (Nat.gcd_dvd_right _ _)
/-- the step of the loop -/
theorem gcd_step (m n : Nat) : Nat.gcd n (m % n) = Nat.gcd m n := by
  rw [Nat.gcd_comm m n, Nat.gcd_rec n m, Nat.gcd_comm]
end Rat3

set_option Elab.async false
set_option linter.all false
set_option maxRecDepth 100000
set_option maxHeartbeats 4000000
namespace Law
open PySem L2
def top (i : Nat) : Stmt := PySem.Challenge.pw_hadnot_k03_ratios.main.body.getD i (.Pass ⟨0, 0, 0, 0⟩)
/-! ### the source of draws -/
abbrev s_feed : Stmt := top 7
abbrev s_take : Stmt := top 8
abbrev s_same : Stmt := top 9
theorem sc_feed : FnScope ["_law_script", "_law_k", "_law_cell", "_law_own"] ["_law_script", "_law_k"] (defScope s_feed) := ⟨rfl, rfl, rfl, by decide +kernel, rfl, by decide +kernel, by decide +kernel⟩
theorem sc_take : FnScope ["_law_feed_here", "_law_many", "_law_digit", "_law_one"] ["_law_feed_here", "_law_many"] (defScope s_take) := ⟨rfl, rfl, rfl, by decide +kernel, rfl, by decide +kernel, by decide +kernel⟩
theorem sc_same : FnScope ["_law_one", "_law_other"] ["_law_one", "_law_other"] (defScope s_same) := ⟨rfl, rfl, rfl, by decide +kernel, rfl, by decide +kernel, by decide +kernel⟩
structure Blt (mg : Str → Option Value) : Prop where
  n_len : mg "len" = none
  n_abs : mg "abs" = none
  n_repr : mg "repr" = none
def spFeed (K : PySem.W.Frag) : Sp := fun vs H Q _ => ∃ (a : Addr) (ns : List Int) (k : Int), vs = [.ref a, .int k] ∧ SqL K H a (ns.map V.int) ∧ ns.length ≤ 63 ∧ 0 ≤ k ∧ k < 1000 ∧
  ∀ p own st, H p = none → 0 ≤ own → 0 < st → st < 4294967296 → Q (.ref p) (upd H p (.lst [.int own, .int st]))
def spTake : Sp := fun vs H Q _ => ∃ (p : Addr) (own st many : Int), vs = [.ref p, .int many] ∧ H p = some (.lst [.int own, .int st]) ∧ 0 ≤ own ∧ 0 < st ∧ st < 4294967296 ∧ 0 < many ∧ many < 18446744073709551616 ∧
  ∀ d own' st', 0 ≤ d → d < many → 0 ≤ own' → 0 < st' → st' < 4294967296 → Q (.int d) (upd H p (.lst [.int own', .int st']))
/-- two data: whether their texts are equal -/
def spSame (K : PySem.W.Frag) : Sp := fun vs H Q _ => ∃ (x y : V) (d e : PyData), vs = [x, y] ∧ (Dp K H x d ∧ d.showable = true ∧ d.hasDict = false ∧ d.depth ≤ 60 ∧ d.shown.length ≤ sizeLine) ∧ (Dp K H y e ∧ e.showable = true ∧ e.hasDict = false ∧ e.depth ≤ 60 ∧ e.shown.length ≤ sizeLine) ∧
  Q (.bl (decide (V.str d.shown = V.str e.shown))) H
section
variable {P : Program} {w : World} {K : PySem.W.Frag} {mg : Str → Option Value} {base : Heap}
theorem mod_lt' (a : Int) {b c : Int} (h : 0 < b) (hc : b ≤ c) : 0 ≤ a % b ∧ a % b < c := ⟨Int.emod_nonneg _ (by omega), Int.lt_of_lt_of_le (Int.emod_lt_of_pos _ h) hc⟩
theorem cmul_l {i j : Int} (h1 : -(2 ^ 64) < i) (h2 : i < 2 ^ 64) : CMul i j := .inl ⟨h1, h2⟩
theorem cmul_r {i j : Int} (h1 : -(2 ^ 64) < j) (h2 : j < 2 ^ 64) : CMul i j := .inr ⟨h1, h2⟩
theorem cdivW {i j : Int} (h : 0 < j) (h2 : j < 18446744073709551616) : CDivW i j := wide_div (b := 64) h (by omega) (by decide) (by decide)
theorem ok_take (D : Def K mg "_law_take" s_take) : HasFn P w K mg base CX0 1 "_law_take" ["_law_feed_here", "_law_many"] spTake := by
  obtain ⟨f, fd, F, hm⟩ := D
  refine ⟨f, fd, F.ok sc_take (fun vs H Q E h => ?_) (fun cdv A outer s H vs Q E hr h => ?_), hm, F.kp, F.binds fun _ _ _ _ _ _ us hl => match us, hl with | [_, _], _ => rfl⟩
  · obtain ⟨p, own, st, many, rfl, _⟩ := h
    rfl
  obtain ⟨p, own, st, many, rfl, hp, h1, h2, h3, h4, h5, k⟩ := h
  refine ⟨_, (pss_cons (ps_if (pt_cmpR op_gt (pe_ix ix_list (pv 0) pe_int (fun _ _ => rfl)) pe_int (nomark _))
  (pss_cons (ps_set (i := 2) sc_take.nd rfl (Or.inl rfl) (pe_op op_mod (pe_ix ix_list (pv 0) pe_int (fun _ _ => rfl)) (pv 1)))
    (pss_cons (ps_asg (pe_op op_fdivW (pe_ix ix_list (pv 0) pe_int (fun _ _ => rfl)) (pv 1)) (pg_sub (pv 0) pe_int set_list))
    (pss_one (ps_ret (pv 2)))))
  pss_nil)
  (pss_cons (ps_set (i := 3) sc_take.nd rfl (Or.inl rfl) (pe_op op_mod (pe_op op_mul (pe_ix ix_list (pv 0) pe_int (fun _ _ => rfl)) pe_int) pe_int))
  (pss_cons (ps_asg (pe_op op_add (pe_op op_mod (pe_op op_add (pe_op op_mul (pv 3) pe_int) pe_int) pe_int) pe_int) (pg_sub (pv 0) pe_int set_list))
  (pss_one (ps_ret (pe_op op_mod (pe_op op_fdivW (pe_op op_add (pe_op op_mul (pv 3) pe_int) (pe_ix ix_list (pv 0) pe_int (fun _ _ => rfl))) pe_int) (pv 1))))))), ?_⟩
  refine ⟨_, rfl, p, _, 0, _, rfl, rfl, SqL.of hp, rfl, _, _, rfl, rfl, _, rfl, ite2 (fun c => ?_) (fun c => ?_)⟩
  · refine ⟨_, rfl, p, _, 0, _, rfl, rfl, SqL.of hp, rfl, _, rfl, _, _, rfl, rfl, h4, ?_⟩
    refine ⟨_, rfl, p, _, 0, _, rfl, rfl, SqL.of hp, rfl, _, rfl, _, _, rfl, rfl, cdivW h4 h5, _, rfl, p, _, 0, 0, rfl, rfl, hp, rfl, ?_⟩
    refine ⟨_, rfl, k _ _ _ (mod_lt' own h4 (Int.le_refl _)).1 (mod_lt' own h4 (Int.le_refl _)).2 (Int.ediv_nonneg h1 (by omega)) h2 h3⟩
  · refine ⟨_, rfl, p, _, 1, _, rfl, rfl, SqL.of hp, rfl, _, _, rfl, rfl, cmul_r (by decide) (by decide), _, _, rfl, rfl, (by decide : (0 : Int) < 2147483647), ?_⟩
    have b1 := mod_lt' (st * 48271) (b := 2147483647) (c := 2147483647) (by decide) (by decide)
    refine ⟨_, rfl, _, _, rfl, rfl, cmul_r (by decide) (by decide), _, _, rfl, rfl, _, _, rfl, rfl, (by decide : (0 : Int) < 2147483399), _, _, rfl, rfl, _, rfl, p, _, 1, 1, rfl, rfl, hp, rfl, ?_⟩
    have b2 := mod_lt' (st * 48271 % 2147483647 * 40692 + 12345) (b := 2147483399) (c := 2147483399) (by decide) (by decide)
    refine ⟨_, rfl, _, _, rfl, rfl, cmul_r (by decide) (by decide), _, rfl, p, _, 1, _, rfl, rfl, SqL.of upd_same, rfl, _, _, rfl, rfl, _, _, rfl, rfl, cdivW (by decide) (by decide), _, rfl, _, _, rfl, rfl, h4, ?_⟩
    exact k _ _ _ (mod_lt' _ h4 (Int.le_refl _)).1 (mod_lt' _ h4 (Int.le_refl _)).2 h1 (by omega) (by omega)
theorem ok_feed (D : Def K mg "_law_feed" s_feed) (T : Blt mg) : HasFn P w K mg base CX0 1 "_law_feed" ["_law_script", "_law_k"] (spFeed K) := by
  obtain ⟨f, fd, F, hm⟩ := D
  refine ⟨f, fd, F.ok sc_feed (fun vs H Q E h => ?_) (fun cdv A outer s H vs Q E hr h => ?_), hm, F.kp, F.binds fun _ _ _ _ _ _ us hl => match us, hl with | [_, _], _ => rfl⟩
  · obtain ⟨a, ns, j, rfl, _⟩ := h
    rfl
  obtain ⟨a, ns, j, rfl, hS, hl, h1, h2, k⟩ := h
  refine ⟨_, (pss_cons (ps_set (i := 2) sc_feed.nd rfl (Or.inl rfl) (pe_op op_add (pe_op op_mul pe_int (pv 1)) pe_int))
  (pss_cons (ps_if (pt_cmpR op_lt (pv 1) (pe_callB call_len_seq (by rfl) T.n_len (by decide +kernel) (pa_cons (pv 0) pa_nil)) (nomark _))
  (pss_one (ps_set (i := 2) sc_feed.nd rfl (Or.inl rfl) (pe_callB call_abs (by rfl) T.n_abs (by decide +kernel) (pa_cons (pe_ix ix_list (pv 0) (pv 1) (fun _ _ => rfl)) pa_nil))))
  (pss_one (ps_if (pt_cmpR op_gt (pe_callB call_len_seq (by rfl) T.n_len (by decide +kernel) (pa_cons (pv 0) pa_nil)) pe_int (nomark _))
    (pss_one (ps_set (i := 2) sc_feed.nd rfl (Or.inl rfl) (pe_op op_add (pe_op op_mul (pe_op op_mod (pe_callB call_abs (by rfl) T.n_abs (by decide +kernel) (pa_cons (pe_ix ix_list (pv 0) (pe_op op_mod (pv 1) (pe_callB call_len_seq (by rfl) T.n_len (by decide +kernel) (pa_cons (pv 0) pa_nil))) (fun _ _ => rfl)) pa_nil)) pe_int) pe_int) (pe_op op_mul pe_int (pv 1)))))
    pss_nil)))
  (pss_cons (ps_set (i := 3) sc_feed.nd rfl (Or.inl rfl) pe_int)
  (pss_cons (ps_if (pt_cmpR op_ge (pv 2) (pe_op op_pow pe_int pe_int) (nomark _))
  (pss_one (ps_set (i := 3) sc_feed.nd rfl (Or.inl rfl) (pv 2)))
  pss_nil)
  (pss_one (ps_ret (pe_lst (pa_cons (pv 3) (pa_cons (pe_op op_add (pe_op op_mod (pe_op op_add (pe_op op_mul (pe_op op_mod (pv 2) pe_int) pe_int) (pe_op op_mul pe_int (pv 1))) pe_int) pe_int) pa_nil))))))))), ?_⟩
  have fin : ∀ c : Int, 0 ≤ c → ∀ t : Option V, (tSeq (tAsg (tC (.int 0)) (gName 3)) (tSeq (tIfS (tTest (tOp (rI0 fun i j => .bl (decide (j ≤ i))) (tVar 2) (tOp (rI CPow fun i j => .int (i ^ j.toNat)) (tC (.int 10)) (tC (.int 18))))) (tAsg (tVar 2) (gName 3)) tNext)
      (tRet (tLst (tCons (tVar 3) (tCons (tOp (rI0 fun i j => .int (i + j)) (tOp (rI (fun _ j => 0 < j) fun i j => .int (i % j)) (tOp (rI0 fun i j => .int (i + j)) (tOp (rI CMul fun i j => .int (i * j)) (tOp (rI (fun _ j => 0 < j) fun i j => .int (i % j)) (tVar 2) (tC (.int 2147483629))) (tC (.int 48271))) (tOp (rI CMul fun i j => .int (i * j)) (tC (.int 50021)) (tVar 1))) (tC (.int 2147483629))) (tC (.int 1))) tNil))))))
      { nx := fun _ H' => Q .non H', rt := Q } [some (.ref a), some (.int j), some (.int c), t] H := by
    intro c hc t
    have bc := mod_lt' (c % 2147483629 * 48271 + 50021 * j) (b := 2147483629) (c := 2147483629) (by decide) (by decide)
    refine ⟨_, rfl, _, _, rfl, rfl, ⟨by decide, by decide, by decide⟩, _, _, rfl, rfl, _, rfl, ite2 (fun e => ?_) (fun e => ?_)⟩
    · refine ⟨_, rfl, _, rfl, _, rfl, _, _, rfl, rfl, (by decide : (0 : Int) < 2147483629), _, _, rfl, rfl, cmul_r (by decide) (by decide), _, rfl, _, _, rfl, rfl, cmul_l (by decide) (by decide), _, _, rfl, rfl, _, _, rfl, rfl, (by decide : (0 : Int) < 2147483629), _, _, rfl, rfl, by show 2 ≤ sizeLine; decide, fun p hp => ?_⟩
      exact k p c _ hp hc (by omega) (by omega)
    · refine ⟨_, rfl, _, rfl, _, _, rfl, rfl, (by decide : (0 : Int) < 2147483629), _, _, rfl, rfl, cmul_r (by decide) (by decide), _, rfl, _, _, rfl, rfl, cmul_l (by decide) (by decide), _, _, rfl, rfl, _, _, rfl, rfl, (by decide : (0 : Int) < 2147483629), _, _, rfl, rfl, by show 2 ≤ sizeLine; decide, fun p hp => ?_⟩
      exact k p 0 _ hp (by decide) (by omega) (by omega)
  have ab : ∀ z : Int, 0 ≤ (if z < 0 then -z else z) := fun z => by split <;> omega
  refine ⟨_, rfl, _, _, rfl, rfl, cmul_l (by decide) (by decide), _, _, rfl, rfl, ?_⟩
  refine ⟨_, rfl, _, rfl, a, _, rfl, .inl hS, _, _, rfl, rfl, _, rfl, ite2 (fun c => ?_) (fun c => ?_)⟩
  · have c' : j < ((ns.map V.int).length : Int) := of_decide_eq_true c
    rw [List.length_map] at c'
    obtain ⟨z, hz⟩ : ∃ z, ns[j.toNat]? = some z := ⟨_, List.getElem?_eq_getElem (by omega)⟩
    refine ⟨_, rfl, _, rfl, a, _, _, .int z, rfl, rfl, hS, ?_, _, rfl, fin _ (ab z) _⟩
    have e : j = ((j.toNat : Nat) : Int) := by omega
    rw [e]
    exact atI_nat (by rw [List.getElem?_map, hz]; rfl)
  · refine ⟨_, rfl, a, _, rfl, .inl hS, _, _, rfl, rfl, _, rfl, ite2 (fun c2 => ?_) (fun c2 => ?_)⟩
    · have c' : (0 : Int) < ((ns.map V.int).length : Int) := of_decide_eq_true c2
      have m1 := mod_lt' j c' (Int.le_refl _)
      obtain ⟨z, hz⟩ : ∃ z, ns[(j % ((ns.map V.int).length : Int)).toNat]? = some z := ⟨_, List.getElem?_eq_getElem (by rw [List.length_map] at m1 ⊢; omega)⟩
      refine ⟨_, rfl, _, rfl, _, rfl, a, _, rfl, .inl hS, _, _, rfl, rfl, c', a, _, _, .int z, rfl, rfl, hS, ?_, _, rfl, _, _, rfl, rfl, (by decide : (0 : Int) < 2147483629), _, _, rfl, rfl, cmul_r (by decide) (by decide), _, rfl, _, _, rfl, rfl, cmul_l (by decide) (by decide), _, _, rfl, rfl, fin _ ?_ _⟩
      · have e : j % ((ns.map V.int).length : Int) = (((j % ((ns.map V.int).length : Int)).toNat : Nat) : Int) := by omega
        rw [e]
        exact atI_nat (by rw [List.getElem?_map, hz]; rfl)
      · have := mod_lt' (if z < 0 then -z else z) (b := 2147483629) (c := 2147483629) (by decide) (by decide)
        omega
    · exact fin _ (by omega) _
theorem ok_same (D : Def K mg "_law_same" s_same) (T : Blt mg) : HasG P w K mg base CX0 1 "_law_same" ["_law_one", "_law_other"] (spSame K) := by
  obtain ⟨f, fd, F, hm⟩ := D
  refine ⟨f, fd, F.okG sc_same (fun vs H Q E h => ?_) (fun cdv A outer s H vs Q E hgs hr h => ?_), hm, F.kp, F.binds fun _ _ _ _ _ _ us hl => match us, hl with | [_, _], _ => rfl⟩
  · obtain ⟨x, y, d, e, rfl, _⟩ := h
    rfl
  obtain ⟨x, y, d, e, rfl, ⟨x1, x2, x3, x4, x5⟩, ⟨y1, y2, y3, y4, y5⟩, k⟩ := h
  refine ⟨_, (pss_one (ps_ret (pe_cmpR op_eq (pe_callB (call_reprD hgs hr.units) (by rfl) T.n_repr (by decide +kernel) (pa_cons (pv 0) pa_nil)) (pe_callB (call_reprD hgs hr.units) (by rfl) T.n_repr (by decide +kernel) (pa_cons (pv 1) pa_nil)) (nomark _)))), ?_⟩
  exact ⟨_, rfl, x, d, rfl, x1, x2, x3, x4, x5, _, rfl, y, e, rfl, y1, y2, y3, y4, y5, rfl, k⟩
end
end Law

set_option Elab.async false
set_option linter.all false
set_option maxRecDepth 100000
set_option maxHeartbeats 4000000
namespace Law
open PySem L2 Rat3
abbrev s_shared : Stmt := top 4
theorem sc_shared : FnScope ["one", "other"] ["one", "other"] (defScope s_shared) := ⟨rfl, rfl, rfl, by decide +kernel, rfl, by decide +kernel, by decide +kernel⟩
abbrev s_lowest : Stmt := top 10
theorem sc_lowest : FnScope ["_law_top", "_law_bottom", "_law_one", "_law_other", "_law_part"] ["_law_top", "_law_bottom"] (defScope s_lowest) := ⟨rfl, rfl, rfl, by decide +kernel, rfl, by decide +kernel, by decide +kernel⟩
abbrev s_parts : Stmt := top 11
theorem sc_parts : FnScope ["_law_ratio"] ["_law_ratio"] (defScope s_parts) := ⟨rfl, rfl, rfl, by decide +kernel, rfl, by decide +kernel, by decide +kernel⟩
abbrev s_made : Stmt := top 12
theorem sc_made : FnScope ["_law_top", "_law_bottom", "_law_found"] ["_law_top", "_law_bottom"] (defScope s_made) := ⟨rfl, rfl, rfl, by decide +kernel, rfl, by decide +kernel, by decide +kernel⟩
abbrev s_pair : Stmt := top 13
theorem sc_pair : FnScope ["_law_one", "_law_other", "_law_left", "_law_a", "_law_b", "_law_right", "_law_c", "_law_d"] ["_law_one", "_law_other"] (defScope s_pair) := ⟨rfl, rfl, rfl, by decide +kernel, rfl, by decide +kernel, by decide +kernel⟩
abbrev s_law : Stmt := top 14
theorem sc_law : FnScope ["_law_script", "_law_k", "_law_feed_here", "_law_some", "_law_turn", "_law_part", "_law_top", "_law_bottom", "_law_great", "_law_one", "_law_a", "_law_b", "_law_other", "_law_c", "_law_d", "_law_ratio", "_law_text", "_law_width"] ["_law_script"] (defScope s_law) := ⟨rfl, rfl, rfl, by decide +kernel, rfl, by decide +kernel, by decide +kernel⟩
abbrev s_rinit : Stmt := inClass (top 5) 0
theorem sc_rinit : FnScope ["self", "top", "bottom", "part"] ["self", "top", "bottom"] (defScope s_rinit) := ⟨rfl, rfl, rfl, by decide +kernel, rfl, by decide +kernel, by decide +kernel⟩
abbrev s_req : Stmt := inClass (top 5) 1
theorem sc_req : FnScope ["self", "other"] ["self", "other"] (defScope s_req) := ⟨rfl, rfl, rfl, by decide +kernel, rfl, by decide +kernel, by decide +kernel⟩
abbrev s_radd : Stmt := inClass (top 5) 2
theorem sc_radd : FnScope ["self", "other"] ["self", "other"] (defScope s_radd) := ⟨rfl, rfl, rfl, by decide +kernel, rfl, by decide +kernel, by decide +kernel⟩
abbrev s_rsub : Stmt := inClass (top 5) 3
theorem sc_rsub : FnScope ["self", "other"] ["self", "other"] (defScope s_rsub) := ⟨rfl, rfl, rfl, by decide +kernel, rfl, by decide +kernel, by decide +kernel⟩
abbrev s_rmul : Stmt := inClass (top 5) 4
theorem sc_rmul : FnScope ["self", "other"] ["self", "other"] (defScope s_rmul) := ⟨rfl, rfl, rfl, by decide +kernel, rfl, by decide +kernel, by decide +kernel⟩
abbrev s_rneg : Stmt := inClass (top 5) 5
theorem sc_rneg : FnScope ["self"] ["self"] (defScope s_rneg) := ⟨rfl, rfl, rfl, by decide +kernel, rfl, by decide +kernel, by decide +kernel⟩
abbrev s_rbool : Stmt := inClass (top 5) 6
theorem sc_rbool : FnScope ["self"] ["self"] (defScope s_rbool) := ⟨rfl, rfl, rfl, by decide +kernel, rfl, by decide +kernel, by decide +kernel⟩
abbrev s_rbelow : Stmt := inClass (top 5) 7
theorem sc_rbelow : FnScope ["self", "other"] ["self", "other"] (defScope s_rbelow) := ⟨rfl, rfl, rfl, by decide +kernel, rfl, by decide +kernel, by decide +kernel⟩
abbrev s_rstr : Stmt := inClass (top 5) 8
theorem sc_rstr : FnScope ["self"] ["self"] (defScope s_rstr) := ⟨rfl, rfl, rfl, by decide +kernel, rfl, by decide +kernel, by decide +kernel⟩
abbrev s_rpad : Stmt := inClass (top 5) 9
theorem sc_rpad : FnScope ["self", "width", "text"] ["self", "width"] (defScope s_rpad) := ⟨rfl, rfl, rfl, by decide +kernel, rfl, by decide +kernel, by decide +kernel⟩
/-! ### the fields of a ratio -/
theorem tb : ¬ (("top" : Str) = "bottom") := by decide +kernel
def flds (a b : Int) : List (Str × V) := [("top", V.int a), ("bottom", V.int b)]
theorem flds_top (a b : Int) : (flds a b).lookup ("top" : Str) = some (.int a) := by
  unfold flds
  rw [List.lookup_cons, (by decide +kernel : (("top" : Str) == "top") = true)]
theorem flds_bot (a b : Int) : (flds a b).lookup ("bottom" : Str) = some (.int b) := by
  unfold flds
  rw [List.lookup_cons, (by decide +kernel : (("bottom" : Str) == "top") = false)]
  dsimp only
  rw [List.lookup_cons, (by decide +kernel : (("bottom" : Str) == "bottom") = true)]
theorem flds_no (a b : Int) {m : Str} (h1 : (m == ("top" : Str)) = false) (h2 : (m == ("bottom" : Str)) = false) : (flds a b).lookup m = none := by
  unfold flds
  rw [List.lookup_cons, h1]
  dsimp only
  rw [List.lookup_cons, h2]
  rfl
theorem flds_put (a b : Int) : putF "bottom" (.int b) (putF "top" (.int a) []) = flds a b := by
  show (if ("top" : Str) = "bottom" then [(("top" : Str), V.int b)] else (("top" : Str), V.int a) :: putF "bottom" (V.int b) []) = flds a b
  rw [if_neg tb]
  all_goals rfl
/-- a ratio a / b stands at p -/
def RatAt (C : Addr) (H : Hp) (p : Addr) (a b : Int) : Prop := ∃ dx, H p = some (.ins C dx (flds a b))
theorem RatAt.same {C : Addr} {H H' : Hp} {p : Addr} {a b : Int} (s : Same H H') (h : RatAt C H p a b) : RatAt C H' p a b := let ⟨dx, h⟩ := h; ⟨dx, s _ _ h⟩
/-- sizes -/
def Sz (n : Nat) (a : Int) : Prop := a.natAbs < 2 ^ n
theorem Sz.mono {n m : Nat} {a : Int} (h : Sz n a) (k : n ≤ m) : Sz m a := Nat.lt_of_lt_of_le h (Nat.pow_le_pow_right (by decide) k)
theorem Sz.mul {n m : Nat} {a b : Int} (h : Sz n a) (k : Sz m b) : Sz (n + m) (a * b) := wide_lt h k
theorem Sz.neg {n : Nat} {a : Int} (h : Sz n a) : Sz n (-a) := by unfold Sz; rw [Int.natAbs_neg]; exact h
theorem Sz.add {n : Nat} {a b : Int} (h : Sz n a) (k : Sz n b) : Sz (n + 1) (a + b) := by
  unfold Sz at *
  have : (a + b).natAbs ≤ a.natAbs + b.natAbs := Int.natAbs_add_le a b
  rw [Nat.pow_succ]
  omega
theorem Sz.sub {n : Nat} {a b : Int} (h : Sz n a) (k : Sz n b) : Sz (n + 1) (a - b) := by
  rw [Int.sub_eq_add_neg]
  exact h.add k.neg
theorem Sz.cmul {n m : Nat} {a b : Int} (h : Sz n a) (k : Sz m b) (hn : 0 < n := by decide) (hm : 0 < m := by decide) (hs : n + m ≤ 1000000 := by decide) : CMulW a b := wide_mul h k hn hm hs
theorem Sz.text {n : Nat} {a : Int} (h : Sz n a) (hn : 0 < n := by decide) (hs : n ≤ 1920 := by decide) : a.natAbs.log2 < 1920 := Nat.lt_of_lt_of_le (PySem.Flt.log2_lt_of hn h) hs
theorem Sz.low1 {n : Nat} {p q : Int} (h : Sz n p) (hq : q ≠ 0) : Sz n (low p q).1 := Nat.lt_of_le_of_lt (low_le1 hq) h
theorem Sz.low2 {n : Nat} {p q : Int} (h : Sz n q) (hq : q ≠ 0) : Sz n (low p q).2 := Nat.lt_of_le_of_lt (low_le2 hq) h
theorem Sz.of {n : Nat} {a : Int} (h1 : -(2 ^ n) < a) (h2 : a < 2 ^ n) : Sz n a := by
  unfold Sz
  have e : (2 : Int) ^ n = ((2 ^ n : Nat) : Int) := by simp
  rw [e] at h1 h2
  omega
/-! ### promises -/
def spShared : Sp := fun vs H Q _ => ∃ p q : Int, vs = [.int p, .int q] ∧ Q (.int (gc p q)) H
def spLowest : Sp := fun vs H Q _ => ∃ p q : Int, vs = [.int p, .int q] ∧ q ≠ 0 ∧ Sz 4000 q ∧ ∀ t, H t = none → Q (.ref t) (upd H t (.tup [.int (low p q).1, .int (low p q).2]))
def spParts (C : Addr) : Sp := fun vs H Q _ => ∃ (x : Addr) (a b : Int), vs = [.ref x] ∧ RatAt C H x a b ∧ ∀ t, H t = none → Q (.ref t) (upd H t (.tup [.int a, .int b]))
def spRInit (C Cn : Addr) : Sp := fun vs H Q E => ∃ (p dx : Addr) (t q : Int), vs = [.ref p, .int t, .int q] ∧ H p = some (.ins C dx []) ∧ Sz 4000 q ∧ (q = 0 → E (.ref Cn) none H) ∧ (q ≠ 0 → Q .non (upd H p (.ins C dx (flds (low t q).1 (low t q).2))))
/-- two ratios in, a new one out: f of their parts in lowest terms -/
def spOp2 (C : Addr) (f : Int → Int → Int → Int → Int × Int) : Sp := fun vs H Q _ => ∃ (p q : Addr) (a b c d : Int), vs = [.ref p, .ref q] ∧ RatAt C H p a b ∧ RatAt C H q c d ∧ Sz 400 a ∧ Sz 400 b ∧ Sz 400 c ∧ Sz 400 d ∧ 0 < b ∧ 0 < d ∧
  ∀ x H', Same H H' → H x = none → RatAt C H' x (f a b c d).1 (f a b c d).2 → Q (.ref x) H'
def spNeg (C : Addr) : Sp := fun vs H Q _ => ∃ (p : Addr) (a b : Int), vs = [.ref p] ∧ RatAt C H p a b ∧ Low a b ∧ Sz 400 a ∧ Sz 400 b ∧ ∀ x H', Same H H' → H x = none → RatAt C H' x (-a) b → Q (.ref x) H'
def spBool (C : Addr) : Sp := fun vs H Q _ => ∃ (p : Addr) (a b : Int), vs = [.ref p] ∧ RatAt C H p a b ∧ Q (.bl (a != 0)) H
def spBelow (C : Addr) : Sp := fun vs H Q _ => ∃ (p q : Addr) (a b c d : Int), vs = [.ref p, .ref q] ∧ RatAt C H p a b ∧ RatAt C H q c d ∧ Sz 400 a ∧ Sz 400 b ∧ Sz 400 c ∧ Sz 400 d ∧ Q (.bl (decide (a * d < c * b))) H
/-- == with anything -/
def spEq2 (K : PySem.W.Frag) (C : Addr) : Sp := fun vs H Q _ => ∃ (p : Addr) (a b : Int) (y : V), vs = [.ref p, y] ∧ RatAt C H p a b ∧
  ((∃ (q : Addr) (c d : Int), y = .ref q ∧ RatAt C H q c d ∧ Q (.bl (decide (a = c) && decide (b = d))) H) ∨ (∃ t, TyX K H y t ∧ PySem.W.kitOne K t (.ref C) = some false ∧ Q (.bl false) H))
/-- the text of a ratio -/
def txt (a b : Int) : Str := if b = 1 then ((toString a : String) : Str) else ((toString a : String) : Str) ++ ("/" : Str) ++ ((toString b : String) : Str)
def spStr (C : Addr) : Sp := fun vs H Q _ => ∃ (p : Addr) (a b : Int), vs = [.ref p] ∧ RatAt C H p a b ∧ Sz 400 a ∧ Sz 400 b ∧ (txt a b).length ≤ 1000 ∧ Q (.str (txt a b)) H
def spPad (C : Addr) : Sp := fun vs H Q _ => ∃ (p : Addr) (a b n : Int), vs = [.ref p, .int n] ∧ RatAt C H p a b ∧ Sz 400 a ∧ Sz 400 b ∧ (txt a b).length ≤ 1000 ∧ 0 ≤ n ∧ n ≤ 100 ∧ Q (.str (Txt.mul " " (n - ((txt a b).length : Int)) ++ txt a b)) H
section
variable {P : Program} {w : World} {K : PySem.W.Frag} {mg : Str → Option Value} {base : Heap} {C Cn : Addr}
structure Txt3 (P : Program) (w : World) (K : PySem.W.Frag) (mg : Str → Option Value) (C Cn : Addr) : Prop where
  cl : Cls K C
  nT : NoAttr K C "top"
  nB : NoAttr K C "bottom"
  sf : PySem.W.selfFirst K C = true
  x_NoRatio : Xc P w K mg "NoRatio" Cn []
  m_Ratio : mg "Ratio" = some (.ref C)
  n_abs : mg "abs" = none
  n_isinstance : mg "isinstance" = none
  n_bool : mg "bool" = none
  n_str : mg "str" = none
  n_len : mg "len" = none
  n_int : mg "int" = none
  n_max : mg "max" = none
  n_min : mg "min" = none
  n_range : mg "range" = none
  ca : PySem.W.findIn K (.ref C) "__class__" = some (some (.builtin "object.__class__"))
  cb : PySem.W.specialIn K (.builtin "object.__class__") "__get__" = some (some (.builtin "getset_descriptor.__get__"))
  cc : PySem.W.takesIn K (.builtin "object.__class__") = some true
  cd : PySem.W.mroIn K C (.type "object") = some true
  kC : PySem.W.kitOne K (.ref C) (.ref C) = some true
  kI : PySem.W.kitOne K (.type "int") (.ref C) = some false
  kS : PySem.W.kitOne K (.type "str") (.ref C) = some false
  kT : PySem.W.kitOne K (.type "tuple") (.ref C) = some false
  nfI : PySem.W.notFirst K C (.type "int") = true
  nfS : PySem.W.notFirst K C (.type "str") = true
  nfT : PySem.W.notFirst K C (.type "tuple") = true
  ex : PySem.W.exmOne K (.ref Cn) (.ref Cn) = some true
theorem ok_shared (D : Def K mg "shared" s_shared) (T : Txt3 P w K mg C Cn) : HasFn P w K mg base CX0 1 "shared" ["one", "other"] spShared := by
  obtain ⟨f, fd, F, hm⟩ := D
  refine ⟨f, fd, F.ok sc_shared (fun vs H Q E h => ?_) (fun cdv A outer s H vs Q E hr h => ?_), hm, F.kp, F.binds fun _ _ _ _ _ _ us hl => match us, hl with | [_, _], _ => rfl⟩
  · obtain ⟨p, q, rfl, _⟩ := h
    rfl
  obtain ⟨p, q, rfl, k⟩ := h
  refine ⟨_, (pss_cons (ps_par (i := 0) (j := 1) (by rfl) sc_shared.nd rfl rfl (by decide) rfl rfl (pa_cons (pe_callB call_abs (by rfl) T.n_abs (by decide +kernel) (pa_cons (pv 0) pa_nil)) (pa_cons (pe_callB call_abs (by rfl) T.n_abs (by decide +kernel) (pa_cons (pv 1) pa_nil)) pa_nil)) (by rfl))
  (pss_cons (ps_while PassesOwn.never (pt_cmpR op_ne (pv 1) pe_int (nomark _))
  (pss_one (ps_par (i := 0) (j := 1) (by rfl) sc_shared.nd rfl rfl (by decide) rfl rfl (pa_cons (pv 1) (pa_cons (pe_op op_mod (pv 0) (pv 1)) pa_nil)) (by rfl))))
  (pss_one (ps_ret (pv 0))))), ?_⟩
  refine ⟨_, rfl, _, rfl, _, rfl, _, rfl, _, _, rfl, ?_⟩
  refine while_by (fun σ H1 => ∃ m n : Nat, σ = [some (.int m), some (.int n)] ∧ H1 = H ∧ Nat.gcd m n = Nat.gcd p.natAbs q.natAbs) (fun σ _ => match σ with | [_, some (.int n)] => n.natAbs | _ => 0) ⟨p.natAbs, q.natAbs, ?_, rfl, rfl⟩ ?_ (fun σ H Q Q' hq ⟨v, e, z, b, e2, q⟩ => ⟨v, e, z, b, e2, hq _ _ q⟩)
  · have ab : ∀ z : Int, (if z < 0 then -z else z) = ((z.natAbs : Nat) : Int) := fun z => by split <;> omega
    rw [ab, ab]
    rfl
  · rintro σ H1 ⟨m, n, rfl, rfl, hg⟩
    refine ⟨_, rfl, rfl, _, rfl, ite2 (fun c => ?_) (fun c => ?_)⟩
    · have hn : n ≠ 0 := fun z => by subst z; simp at c
      refine ⟨_, rfl, _, rfl, _, rfl, _, _, rfl, rfl, (by omega : (0 : Int) < (n : Int)), _, _, rfl, ⟨n, m % n, by rfl, rfl, by rw [gcd_step]; exact hg⟩, ?_⟩
      show ((m : Int) % (n : Int)).natAbs < ((n : Nat) : Int).natAbs
      have : (m : Int) % (n : Int) = ((m % n : Nat) : Int) := (Int.natCast_emod m n).symm
      rw [this]
      have := Nat.mod_lt m (Nat.pos_of_ne_zero hn)
      omega
    · have hn : n = 0 := by
        rcases Nat.eq_zero_or_pos n with z | z
        · exact z
        · exact absurd (by simp; omega) c
      subst hn
      refine ⟨_, rfl, ?_⟩
      rw [Nat.gcd_zero_right] at hg
      subst hg
      exact k
end
end Law

set_option Elab.async false
set_option linter.all false
set_option maxRecDepth 100000
set_option maxHeartbeats 4000000
namespace Law
open PySem L2 Rat3
section
variable {P : Program} {w : World} {K : PySem.W.Frag} {mg : Str → Option Value} {base : Heap} {C Cn : Addr}
theorem cdivZ {i j : Int} (h : j ≠ 0) (k : Sz 4000 j) : CDivZ i j := ⟨h, Nat.lt_of_lt_of_le (PySem.Flt.log2_lt_of (by decide) k) (by decide)⟩
theorem sz_pt {p q : Int} (h : q ≠ 0) (k : Sz 4000 q) : Sz 4000 (pt p q) := Nat.lt_of_le_of_lt (pt_le h) k
theorem ok_lowest (D : Def K mg "_law_lowest" s_lowest) (T : Txt3 P w K mg C Cn) : HasFn P w K mg base CX0 1 "_law_lowest" ["_law_top", "_law_bottom"] spLowest := by
  obtain ⟨f, fd, F, hm⟩ := D
  refine ⟨f, fd, F.ok sc_lowest (fun vs H Q E h => ?_) (fun cdv A outer s H vs Q E hr h => ?_), hm, F.kp, F.binds fun _ _ _ _ _ _ us hl => match us, hl with | [_, _], _ => rfl⟩
  · obtain ⟨p, q, rfl, _⟩ := h
    rfl
  obtain ⟨p, q, rfl, hq, hz, k⟩ := h
  refine ⟨_, (pss_cons (ps_par (i := 2) (j := 3) (by rfl) sc_lowest.nd rfl rfl (by decide) rfl rfl (pa_cons (pe_callB call_abs (by rfl) T.n_abs (by decide +kernel) (pa_cons (pv 0) pa_nil)) (pa_cons (pe_callB call_abs (by rfl) T.n_abs (by decide +kernel) (pa_cons (pv 1) pa_nil)) pa_nil)) (by rfl))
  (pss_cons (ps_while PassesOwn.never (pt_cmpR op_gt (pv 3) pe_int (nomark _))
  (pss_one (ps_par (i := 2) (j := 3) (by rfl) sc_lowest.nd rfl rfl (by decide) rfl rfl (pa_cons (pv 3) (pa_cons (pe_op op_mod (pv 2) (pv 3)) pa_nil)) (by rfl))))
  (pss_cons (ps_set (i := 4) sc_lowest.nd rfl (Or.inl rfl) (pe_ifExp (pt_cmpR op_gt (pv 1) pe_int (nomark _)) (pv 2) (pe_op op_sub pe_int (pv 2))))
  (pss_one (ps_ret (pe_tup (pa_cons (pe_op op_fdivZ (pv 0) (pv 4)) (pa_cons (pe_op op_fdivZ (pv 1) (pv 4)) pa_nil)))))))), ?_⟩
  refine ⟨_, rfl, _, rfl, _, rfl, _, rfl, _, _, rfl, ?_⟩
  refine while_by (fun σ H1 => ∃ m n : Nat, σ = [some (.int p), some (.int q), some (.int m), some (.int n), none] ∧ H1 = H ∧ Nat.gcd m n = Nat.gcd p.natAbs q.natAbs) (fun σ _ => match σ with | [_, _, _, some (.int n), _] => n.natAbs | _ => 0) ⟨p.natAbs, q.natAbs, ?_, rfl, rfl⟩ ?_
    (fun σ H Q Q' hq ⟨v, e, i, j, z, z2, b, e2, q⟩ => ⟨v, e, i, j, z, z2, b, e2, hq _ _ q⟩)
  · have ab : ∀ z : Int, (if z < 0 then -z else z) = ((z.natAbs : Nat) : Int) := fun z => by split <;> omega
    rw [ab, ab]
    rfl
  · rintro σ H1 ⟨m, n, rfl, rfl, hg⟩
    refine ⟨_, rfl, _, _, rfl, rfl, _, rfl, ite2 (fun c => ?_) (fun c => ?_)⟩
    · have hn : (0 : Int) < (n : Int) := of_decide_eq_true c
      refine ⟨_, rfl, _, rfl, _, rfl, _, _, rfl, rfl, hn, _, _, rfl, ⟨n, m % n, by rfl, rfl, by rw [gcd_step]; exact hg⟩, ?_⟩
      show ((m : Int) % (n : Int)).natAbs < ((n : Nat) : Int).natAbs
      have : (m : Int) % (n : Int) = ((m % n : Nat) : Int) := (Int.natCast_emod m n).symm
      rw [this]
      have := Nat.mod_lt m (by omega : 0 < n)
      omega
    · have hn : n = 0 := by
        rcases Nat.eq_zero_or_pos n with z | z
        · exact z
        · exact absurd (decide_eq_true (by omega : (0 : Int) < (n : Int))) c
      subst hn
      rw [Nat.gcd_zero_right] at hg
      subst hg
      have fin : ∀ z : Int, z = pt p q → (tRet (tTup (tCons (tOp (rI CDivZ fun i j => V.int (i.fdiv j)) (tVar 0) (tVar 4)) (tCons (tOp (rI CDivZ fun i j => V.int (i.fdiv j)) (tVar 1) (tVar 4)) tNil)))) { nx := fun _ H' => Q .non H', rt := Q } [some (.int p), some (.int q), some (.int (gc p q)), some (.int 0), some (.int z)] H1 := by
        rintro z rfl
        refine ⟨_, rfl, _, rfl, _, _, rfl, rfl, cdivZ (pt_ne hq) (sz_pt hq hz), _, rfl, _, rfl, _, _, rfl, rfl, cdivZ (pt_ne hq) (sz_pt hq hz), by show 2 ≤ sizeLine; decide, fun t nt => ?_⟩
        exact k t nt
      refine ⟨_, rfl, _, _, rfl, rfl, _, rfl, ite2 (fun c2 => ?_) (fun c2 => ?_)⟩
      · refine ⟨_, rfl, ?_⟩
        exact fin _ (by unfold pt; rw [if_pos (of_decide_eq_true c2)]; rfl)
      · refine ⟨_, rfl, _, _, rfl, rfl, ?_⟩
        exact fin _ (by unfold pt; rw [if_neg (fun z => c2 (decide_eq_true z))]; show 0 - gc p q = -(gc p q); omega)
theorem ok_parts (D : Def K mg "_law_parts" s_parts) (T : Txt3 P w K mg C Cn) : HasFn P w K mg base CX0 1 "_law_parts" ["_law_ratio"] (spParts C) := by
  obtain ⟨f, fd, F, hm⟩ := D
  refine ⟨f, fd, F.ok sc_parts (fun vs H Q E h => ?_) (fun cdv A outer s H vs Q E hr h => ?_), hm, F.kp, F.binds fun _ _ _ _ _ _ us hl => match us, hl with | [_], _ => rfl⟩
  · obtain ⟨x, a, b, rfl, _⟩ := h
    rfl
  obtain ⟨x, a, b, rfl, ⟨dx, hx⟩, k⟩ := h
  refine ⟨_, (pss_one (ps_ret (pe_tup (pa_cons (pe_fld (pv 0) rfl) (pa_cons (pe_fld (pv 0) rfl) pa_nil))))), ?_⟩
  exact ⟨_, rfl, x, C, dx, _, _, rfl, hx, T.cl, T.nT, flds_top _ _, _, rfl, x, C, dx, _, _, rfl, hx, T.cl, T.nB, flds_bot _ _, by show 2 ≤ sizeLine; decide, k⟩
structure Os (P : Program) (w : World) (K : PySem.W.Frag) (mg : Str → Option Value) (base : Heap) : Prop where
  shared : HasFn P w K mg base CX0 1 "shared" ["one", "other"] spShared
theorem ok_rinit {f : Addr} {fd : FuncData} {dvs : List V} (F : FunD K "__init__" "Ratio.__init__" (defArgs s_rinit) (defBody s_rinit) (defScope s_rinit) dvs [] f fd) (T : Txt3 P w K mg C Cn) (O : Os P w K mg base) : FnOk P w K mg base (L2.CX P w) 2 f fd ["self", "top", "bottom"] (spRInit C Cn) := by
  refine F.ok sc_rinit (fun vs H Q E h => ?_) (fun cdv A outer s H vs Q E hr h => ?_)
  · obtain ⟨p, dx, t, q, rfl, _⟩ := h
    rfl
  obtain ⟨p, dx, t, q, rfl, hp, hz, h0, h1⟩ := h
  refine ⟨_, (pss_cons (ps_if (pt_cmpR op_eq (pv 2) pe_int (nomark _))
  (pss_one (ps_raise rfl (takes_of rfl rfl rfl rfl) (pmk_x0 T.x_NoRatio.mkc (raises_own T.x_NoRatio.ra.1 T.x_NoRatio.ra.2) T.x_NoRatio.kC hr (by rfl) T.x_NoRatio.gC)))
  pss_nil)
  (pss_cons (ps_set (i := 3) sc_rinit.nd rfl (Or.inl rfl) (pe_callO O.shared hr (by rfl) pass0 (pa_cons (pv 1) (pa_cons (pv 2) pa_nil))))
  (pss_cons (ps_if (pt_cmpR op_lt (pv 2) pe_int (nomark _))
  (pss_one (ps_set (i := 3) sc_rinit.nd rfl (Or.inl rfl) (pe_un un_neg (pv 3))))
  pss_nil)
  (pss_cons (ps_fld (pv 0) (pe_op op_fdivZ (pv 1) (pv 3)) rfl)
  (pss_one (ps_fld (pv 0) (pe_op op_fdivZ (pv 2) (pv 3)) rfl)))))), ?_⟩
  refine ⟨_, rfl, rfl, _, rfl, ite2 (fun c => ?_) (fun c => ?_)⟩
  · have hq : q = 0 := V.int.inj (of_decide_eq_true c)
    exact ⟨rfl, h0 hq⟩
  · have hq : q ≠ 0 := fun z => c (decide_eq_true (by rw [z]))
    refine ⟨_, rfl, _, rfl, t, q, rfl, ?_⟩
    have fin : ∀ z : Int, z = pt t q → (tSeq (sFld K (tVar 0) (tOp (rI CDivZ fun i j => V.int (i.fdiv j)) (tVar 1) (tVar 3)) "top") (sFld K (tVar 0) (tOp (rI CDivZ fun i j => V.int (i.fdiv j)) (tVar 2) (tVar 3)) "bottom")) { nx := fun _ H' => Q .non H', rt := Q } [some (.ref p), some (.int t), some (.int q), some (.int z)] H := by
      rintro z rfl
      refine ⟨_, rfl, _, rfl, _, _, rfl, rfl, cdivZ (pt_ne hq) (sz_pt hq hz), _, rfl, p, C, dx, [], rfl, hp, T.cl, T.nT, (by show 0 < 1000; decide), ?_⟩
      refine ⟨_, rfl, _, rfl, _, _, rfl, rfl, cdivZ (pt_ne hq) (sz_pt hq hz), _, rfl, p, C, dx, _, rfl, upd_same, T.cl, T.nB, (by show 1 < 1000; decide), ?_⟩
      rw [upd_upd, flds_put]
      exact h1 hq
    refine ⟨_, rfl, _, _, rfl, rfl, _, rfl, ite2 (fun c2 => ?_) (fun c2 => ?_)⟩
    · have h2 : q < 0 := of_decide_eq_true c2
      refine ⟨_, rfl, _, rfl, ?_⟩
      exact fin _ (by unfold pt; rw [if_neg (by omega)])
    · have h2 : ¬ q < 0 := fun z => c2 (decide_eq_true z)
      exact fin _ (by unfold pt; rw [if_pos (by omega)])
end
end Law

set_option Elab.async false
set_option linter.all false
set_option maxRecDepth 100000
set_option maxHeartbeats 4000000
namespace Law
open PySem L2 Rat3
section
variable {P : Program} {w : World} {K : PySem.W.Frag} {mg : Str → Option Value} {base : Heap} {C Cn : Addr}
structure Or (P : Program) (w : World) (K : PySem.W.Frag) (mg : Str → Option Value) (base : Heap) (C Cn : Addr) : Prop where
  Ratio2 : HasC P w K mg base (L2.CX P w) 2 C "Ratio" ["self", "top", "bottom"] [] (spRInit C Cn)
  Ratio1 : HasC P w K mg base (L2.CX P w) 2 C "Ratio" ["self", "top", "bottom"] [.int 1] (spRInit C Cn)
theorem str_empty_append (x : Str) : Str.empty ++ x = x := PySem.Str.empty_append x
theorem newR {H : Hp} {x dx : Addr} {o1 o2 : HO} (nx : H x = none) (nd : H dx = none) : Same H (upd (upd (upd H dx (.own x)) x o1) x o2) := fun b o e => by
  rw [upd_ne (ne_of_none e nx), upd_ne (ne_of_none e nx), upd_ne (ne_of_none e nd)]
  exact e
def fAdd (a b c d : Int) : Int × Int := low (a * d + c * b) (b * d)
def fSub (a b c d : Int) : Int × Int := low (a * d - c * b) (b * d)
def fMul (a b c d : Int) : Int × Int := low (a * c) (b * d)
theorem ok_radd (D : DefM K C "__add__" "Ratio.__add__" s_radd) (T : Txt3 P w K mg C Cn) (O : Or P w K mg base C Cn) : HasM P w K mg base CX0 4 C "__add__" ["self", "other"] (spOp2 C fAdd) := by
  obtain ⟨f, fd, F, hs, hf⟩ := D
  refine ⟨f, fd, F.ok sc_radd (fun vs H Q E h => ?_) (fun cdv A outer s H vs Q E hr h => ?_), hs, hf, F.kp, F.binds fun _ _ _ _ _ _ us hl => match us, hl with | [_, _], _ => rfl⟩
  · obtain ⟨p, q, a, b, c, d, rfl, _⟩ := h
    rfl
  obtain ⟨p, q, a, b, c, d, rfl, ⟨dx, hp⟩, ⟨dy, hq⟩, sa, sb, sc, sd, hb, hd, k⟩ := h
  refine ⟨_, (pss_one (ps_ret (pe_makeS O.Ratio2 hr (by rfl) passS (pa_cons (pe_op op_add (pe_op op_mulW (pe_fld (pv 0) rfl) (pe_fld (pv 1) rfl)) (pe_op op_mulW (pe_fld (pv 1) rfl) (pe_fld (pv 0) rfl))) (pa_cons (pe_op op_mulW (pe_fld (pv 0) rfl) (pe_fld (pv 1) rfl)) pa_nil))))), ?_⟩
  have ne : b * d ≠ 0 := Int.mul_ne_zero (by omega) (by omega)
  refine ⟨_, rfl, p, C, dx, _, _, rfl, hp, T.cl, T.nT, flds_top _ _, _, rfl, q, C, dy, _, _, rfl, hq, T.cl, T.nB, flds_bot _ _, _, _, rfl, rfl, Sz.cmul sa sd, _, rfl, q, C, dy, _, _, rfl, hq, T.cl, T.nT, flds_top _ _, _, rfl, p, C, dx, _, _, rfl, hp, T.cl, T.nB, flds_bot _ _, _, _, rfl, rfl, Sz.cmul sc sb, _, _, rfl, rfl, _, rfl, p, C, dx, _, _, rfl, hp, T.cl, T.nB, flds_bot _ _, _, rfl, q, C, dy, _, _, rfl, hq, T.cl, T.nB, flds_bot _ _, _, _, rfl, rfl, Sz.cmul sb sd, fun x dz nx ndz nz => ⟨x, dz, _, _, rfl, upd_same, (sb.mul sd).mono (by decide), fun z => absurd z ne, fun _ => ⟨rfl, ?_⟩⟩⟩
  exact k x _ (newR nx ndz) nx ⟨dz, upd_same⟩
theorem ok_rsub (D : DefM K C "__sub__" "Ratio.__sub__" s_rsub) (T : Txt3 P w K mg C Cn) (O : Or P w K mg base C Cn) : HasM P w K mg base CX0 4 C "__sub__" ["self", "other"] (spOp2 C fSub) := by
  obtain ⟨f, fd, F, hs, hf⟩ := D
  refine ⟨f, fd, F.ok sc_rsub (fun vs H Q E h => ?_) (fun cdv A outer s H vs Q E hr h => ?_), hs, hf, F.kp, F.binds fun _ _ _ _ _ _ us hl => match us, hl with | [_, _], _ => rfl⟩
  · obtain ⟨p, q, a, b, c, d, rfl, _⟩ := h
    rfl
  obtain ⟨p, q, a, b, c, d, rfl, ⟨dx, hp⟩, ⟨dy, hq⟩, sa, sb, sc, sd, hb, hd, k⟩ := h
  refine ⟨_, (pss_one (ps_ret (pe_makeS O.Ratio2 hr (by rfl) passS (pa_cons (pe_op op_sub (pe_op op_mulW (pe_fld (pv 0) rfl) (pe_fld (pv 1) rfl)) (pe_op op_mulW (pe_fld (pv 1) rfl) (pe_fld (pv 0) rfl))) (pa_cons (pe_op op_mulW (pe_fld (pv 0) rfl) (pe_fld (pv 1) rfl)) pa_nil))))), ?_⟩
  have ne : b * d ≠ 0 := Int.mul_ne_zero (by omega) (by omega)
  refine ⟨_, rfl, p, C, dx, _, _, rfl, hp, T.cl, T.nT, flds_top _ _, _, rfl, q, C, dy, _, _, rfl, hq, T.cl, T.nB, flds_bot _ _, _, _, rfl, rfl, Sz.cmul sa sd, _, rfl, q, C, dy, _, _, rfl, hq, T.cl, T.nT, flds_top _ _, _, rfl, p, C, dx, _, _, rfl, hp, T.cl, T.nB, flds_bot _ _, _, _, rfl, rfl, Sz.cmul sc sb, _, _, rfl, rfl, _, rfl, p, C, dx, _, _, rfl, hp, T.cl, T.nB, flds_bot _ _, _, rfl, q, C, dy, _, _, rfl, hq, T.cl, T.nB, flds_bot _ _, _, _, rfl, rfl, Sz.cmul sb sd, fun x dz nx ndz nz => ⟨x, dz, _, _, rfl, upd_same, (sb.mul sd).mono (by decide), fun z => absurd z ne, fun _ => ⟨rfl, ?_⟩⟩⟩
  exact k x _ (newR nx ndz) nx ⟨dz, upd_same⟩
theorem ok_rmul (D : DefM K C "__mul__" "Ratio.__mul__" s_rmul) (T : Txt3 P w K mg C Cn) (O : Or P w K mg base C Cn) : HasM P w K mg base CX0 4 C "__mul__" ["self", "other"] (spOp2 C fMul) := by
  obtain ⟨f, fd, F, hs, hf⟩ := D
  refine ⟨f, fd, F.ok sc_rmul (fun vs H Q E h => ?_) (fun cdv A outer s H vs Q E hr h => ?_), hs, hf, F.kp, F.binds fun _ _ _ _ _ _ us hl => match us, hl with | [_, _], _ => rfl⟩
  · obtain ⟨p, q, a, b, c, d, rfl, _⟩ := h
    rfl
  obtain ⟨p, q, a, b, c, d, rfl, ⟨dx, hp⟩, ⟨dy, hq⟩, sa, sb, sc, sd, hb, hd, k⟩ := h
  refine ⟨_, (pss_one (ps_ret (pe_makeS O.Ratio2 hr (by rfl) passS (pa_cons (pe_op op_mulW (pe_fld (pv 0) rfl) (pe_fld (pv 1) rfl)) (pa_cons (pe_op op_mulW (pe_fld (pv 0) rfl) (pe_fld (pv 1) rfl)) pa_nil))))), ?_⟩
  have ne : b * d ≠ 0 := Int.mul_ne_zero (by omega) (by omega)
  refine ⟨_, rfl, p, C, dx, _, _, rfl, hp, T.cl, T.nT, flds_top _ _, _, rfl, q, C, dy, _, _, rfl, hq, T.cl, T.nT, flds_top _ _, _, _, rfl, rfl, Sz.cmul sa sc, _, rfl, p, C, dx, _, _, rfl, hp, T.cl, T.nB, flds_bot _ _, _, rfl, q, C, dy, _, _, rfl, hq, T.cl, T.nB, flds_bot _ _, _, _, rfl, rfl, Sz.cmul sb sd, fun x dz nx ndz nz => ⟨x, dz, _, _, rfl, upd_same, (sb.mul sd).mono (by decide), fun z => absurd z ne, fun _ => ⟨rfl, ?_⟩⟩⟩
  exact k x _ (newR nx ndz) nx ⟨dz, upd_same⟩
theorem ok_rneg (D : DefM K C "__neg__" "Ratio.__neg__" s_rneg) (T : Txt3 P w K mg C Cn) (O : Or P w K mg base C Cn) : HasM P w K mg base CX0 4 C "__neg__" ["self"] (spNeg C) := by
  obtain ⟨f, fd, F, hs, hf⟩ := D
  refine ⟨f, fd, F.ok sc_rneg (fun vs H Q E h => ?_) (fun cdv A outer s H vs Q E hr h => ?_), hs, hf, F.kp, F.binds fun _ _ _ _ _ _ us hl => match us, hl with | [_], _ => rfl⟩
  · obtain ⟨p, a, b, rfl, _⟩ := h
    rfl
  obtain ⟨p, a, b, rfl, ⟨dx, hp⟩, hL, sa, sb, k⟩ := h
  refine ⟨_, (pss_one (ps_ret (pe_makeS O.Ratio2 hr (by rfl) passS (pa_cons (pe_un un_neg (pe_fld (pv 0) rfl)) (pa_cons (pe_fld (pv 0) rfl) pa_nil))))), ?_⟩
  have ne : b ≠ 0 := by have := hL.1; omega
  refine ⟨_, rfl, p, C, dx, _, _, rfl, hp, T.cl, T.nT, flds_top _ _, _, rfl, _, rfl, p, C, dx, _, _, rfl, hp, T.cl, T.nB, flds_bot _ _, fun x dz nx ndz nz => ⟨x, dz, _, _, rfl, upd_same, sb.mono (by decide), fun z => absurd z ne, fun _ => ⟨rfl, ?_⟩⟩⟩
  rw [low_neg hL]
  exact k x _ (newR nx ndz) nx ⟨dz, upd_same⟩
theorem ok_rbool (D : DefM K C "__bool__" "Ratio.__bool__" s_rbool) (T : Txt3 P w K mg C Cn) : HasM P w K mg base CX0 1 C "__bool__" ["self"] (spBool C) := by
  obtain ⟨f, fd, F, hs, hf⟩ := D
  refine ⟨f, fd, F.ok sc_rbool (fun vs H Q E h => ?_) (fun cdv A outer s H vs Q E hr h => ?_), hs, hf, F.kp, F.binds fun _ _ _ _ _ _ us hl => match us, hl with | [_], _ => rfl⟩
  · obtain ⟨p, a, b, rfl, _⟩ := h
    rfl
  obtain ⟨p, a, b, rfl, ⟨dx, hp⟩, k⟩ := h
  refine ⟨_, (pss_one (ps_ret (pe_callTy call_bool1 (by rfl) T.n_bool (by decide +kernel) (pa_cons (pe_fld (pv 0) rfl) pa_nil)))), ?_⟩
  exact ⟨_, rfl, p, C, dx, _, _, rfl, hp, T.cl, T.nT, flds_top _ _, .inl ⟨a, rfl, k⟩⟩
theorem ok_rbelow (D : DefM K C "below" "Ratio.below" s_rbelow) (T : Txt3 P w K mg C Cn) : HasM P w K mg base CX0 1 C "below" ["self", "other"] (spBelow C) := by
  obtain ⟨f, fd, F, hs, hf⟩ := D
  refine ⟨f, fd, F.ok sc_rbelow (fun vs H Q E h => ?_) (fun cdv A outer s H vs Q E hr h => ?_), hs, hf, F.kp, F.binds fun _ _ _ _ _ _ us hl => match us, hl with | [_, _], _ => rfl⟩
  · obtain ⟨p, q, a, b, c, d, rfl, _⟩ := h
    rfl
  obtain ⟨p, q, a, b, c, d, rfl, ⟨dx, hp⟩, ⟨dy, hq⟩, sa, sb, sc, sd, k⟩ := h
  refine ⟨_, (pss_one (ps_ret (pe_cmpR op_lt (pe_op op_mulW (pe_fld (pv 0) rfl) (pe_fld (pv 1) rfl)) (pe_op op_mulW (pe_fld (pv 1) rfl) (pe_fld (pv 0) rfl)) (nomark _)))), ?_⟩
  exact ⟨_, rfl, p, C, dx, _, _, rfl, hp, T.cl, T.nT, flds_top _ _, _, rfl, q, C, dy, _, _, rfl, hq, T.cl, T.nB, flds_bot _ _, _, _, rfl, rfl, Sz.cmul sa sd, _, rfl, q, C, dy, _, _, rfl, hq, T.cl, T.nT, flds_top _ _, _, rfl, p, C, dx, _, _, rfl, hp, T.cl, T.nB, flds_bot _ _, _, _, rfl, rfl, Sz.cmul sc sb, _, _, rfl, rfl, k⟩
theorem ok_req (D : DefM K C "__eq__" "Ratio.__eq__" s_req) (T : Txt3 P w K mg C Cn) : HasM P w K mg base CX0 1 C "__eq__" ["self", "other"] (spEq2 K C) := by
  obtain ⟨f, fd, F, hs, hf⟩ := D
  refine ⟨f, fd, F.ok sc_req (fun vs H Q E h => ?_) (fun cdv A outer s H vs Q E hr h => ?_), hs, hf, F.kp, F.binds fun _ _ _ _ _ _ us hl => match us, hl with | [_, _], _ => rfl⟩
  · obtain ⟨p, a, b, y, rfl, _⟩ := h
    rfl
  obtain ⟨p, a, b, y, rfl, ⟨dx, hp⟩, h⟩ := h
  refine ⟨_, (pss_one (ps_ret (pe_and (pe_callB call_isi (by rfl) T.n_isinstance (by decide +kernel) (pa_cons (pv 1) (pa_cons (pe_glob (v := .ref C) (by rfl) T.m_Ratio rfl) pa_nil))) (pe_and (pe_cmpR op_eq (pe_fld (pv 0) rfl) (pe_fld (pv 1) rfl) (nomark _)) (pe_one (pe_cmpR op_eq (pe_fld (pv 0) rfl) (pe_fld (pv 1) rfl) (nomark _))))))), ?_⟩
  rcases h with ⟨q, c, d, rfl, ⟨dy, hq⟩, k⟩ | ⟨t, ty, kt, k⟩
  · refine ⟨_, rfl, _, _, _, _, _, rfl, .own C, .base (.ins hq T.cl T.ca T.cb T.cc T.cd), T.kC, true, rfl, iteT ?_⟩
    refine ⟨_, rfl, p, C, dx, _, _, rfl, hp, T.cl, T.nT, flds_top _ _, _, rfl, q, C, dy, _, _, rfl, hq, T.cl, T.nT, flds_top _ _, rfl, _, rfl, ite2 (fun e => ?_) (fun e => ?_)⟩
    · refine ⟨_, rfl, p, C, dx, _, _, rfl, hp, T.cl, T.nB, flds_bot _ _, _, rfl, q, C, dy, _, _, rfl, hq, T.cl, T.nB, flds_bot _ _, rfl, ?_⟩
      have e1 : a = c := V.int.inj (of_decide_eq_true e)
      have e2 : decide (V.int b = V.int d) = decide (b = d) := decide_eq_decide.mpr ⟨V.int.inj, fun z => by rw [z]⟩
      rw [e2]
      rw [decide_eq_true e1, Bool.true_and] at k
      exact k
    · have e1 : a ≠ c := fun z => e (decide_eq_true (by rw [z]))
      rw [decide_eq_false e1, Bool.false_and] at k
      exact k
  · exact ⟨_, rfl, _, _, _, _, _, rfl, .own C, ty, kt, false, rfl, iteF k⟩
theorem ok_rstr (D : DefM K C "__str__" "Ratio.__str__" s_rstr) (T : Txt3 P w K mg C Cn) : HasM P w K mg base CX0 1 C "__str__" ["self"] (spStr C) := by
  obtain ⟨f, fd, F, hs, hf⟩ := D
  refine ⟨f, fd, F.ok sc_rstr (fun vs H Q E h => ?_) (fun cdv A outer s H vs Q E hr h => ?_), hs, hf, F.kp, F.binds fun _ _ _ _ _ _ us hl => match us, hl with | [_], _ => rfl⟩
  · obtain ⟨p, a, b, rfl, _⟩ := h
    rfl
  obtain ⟨p, a, b, rfl, ⟨dx, hp⟩, sa, sb, hl, k⟩ := h
  refine ⟨_, (pss_cons (ps_if (pt_cmpR op_eq (pe_fld (pv 0) rfl) pe_int (nomark _))
  (pss_one (ps_ret (pe_joined1 (pe_fmt (pe_fld (pv 0) rfl)))))
  pss_nil)
  (pss_one (ps_ret (pe_joined (.cons (pe_fmt (pe_fld (pv 0) rfl)) (.cons (pe_str) (.cons (pe_fmt (pe_fld (pv 0) rfl)) .nil))))))), ?_⟩
  refine ⟨_, rfl, p, C, dx, _, _, rfl, hp, T.cl, T.nB, flds_bot _ _, rfl, _, rfl, ite2 (fun c => ?_) (fun c => ?_)⟩
  · have e : b = 1 := V.int.inj (of_decide_eq_true c)
    refine ⟨_, rfl, p, C, dx, _, _, rfl, hp, T.cl, T.nT, flds_top _ _, .inr ⟨a, rfl, sa.text, ?_⟩⟩
    have t : txt a b = ((toString a : String) : Str) := by unfold txt; rw [if_pos e]
    rw [t] at k
    exact k
  · have e : b ≠ 1 := fun z => c (decide_eq_true (by rw [z]))
    have t : txt a b = ((toString a : String) : Str) ++ ("/" : Str) ++ ((toString b : String) : Str) := by unfold txt; rw [if_neg e]
    rw [t] at k hl
    have hl' : ∀ {x y : Str}, (x ++ y).length ≤ 1000 → x.length ≤ 1000 := fun {x y} z => by rw [strLen_append] at z; omega
    have sz : ∀ {x : Str}, x.length ≤ 1000 → x.length ≤ sizeLine := fun z => Nat.le_trans z (by decide)
    refine ⟨_, rfl, p, C, dx, _, _, rfl, hp, T.cl, T.nT, flds_top _ _, .inr ⟨a, rfl, sa.text, _, rfl, ?_, _, rfl, ?_, _, rfl, p, C, dx, _, _, rfl, hp, T.cl, T.nB, flds_bot _ _, .inr ⟨b, rfl, sb.text, _, rfl, ?_, ?_⟩⟩⟩
    · rw [show (Str.empty ++ ((toString a : String) : Str)) = ((toString a : String) : Str) from str_empty_append _]
      exact sz (hl' (hl' hl))
    · rw [show (Str.empty ++ ((toString a : String) : Str)) = ((toString a : String) : Str) from str_empty_append _]
      exact sz (hl' hl)
    · rw [show (Str.empty ++ ((toString a : String) : Str)) = ((toString a : String) : Str) from str_empty_append _]
      exact sz hl
    · show Q (.str (Str.empty ++ ((toString a : String) : Str) ++ ("/" : Str) ++ ((toString b : String) : Str))) H
      rw [show (Str.empty ++ ((toString a : String) : Str)) = ((toString a : String) : Str) from str_empty_append _]
      exact k
end
end Law

set_option Elab.async false
set_option linter.all false
set_option maxRecDepth 100000
set_option maxHeartbeats 4000000
namespace Law
open PySem L2 Rat3
theorem sN {H : Hp} {p : Addr} {o : HO} (h : H p = none) : Same H (upd H p o) := fun b x e => by
  rw [upd_ne (ne_of_none e h)]
  exact e
/-! ### blanks -/
theorem cat_size {α : Type} (x : Array α) : ∀ (n : Nat) (z : Array α), ((List.replicate n x).foldl (· ++ ·) z).size = z.size + n * x.size
  | 0, z => by simp
  | n + 1, z => by
    rw [List.replicate_succ, List.foldl_cons, cat_size x n, Array.size_append, Nat.succ_mul]
    omega
theorem sp1 : (" " : Str).length = 1 := by decide +kernel
theorem mul_len {n : Int} : ((Txt.mul " " n).length : Int) ≤ max 0 n := by
  unfold Txt.mul
  split
  · show ((0 : Nat) : Int) ≤ _
    omega
  · split
    · rw [sp1]
      omega
    · show (((List.replicate n.toNat (" " : Str).cps).foldl (· ++ ·) #[]).size : Int) ≤ _
      have : (" " : Str).cps.size = 1 := by decide +kernel
      rw [cat_size, this]
      show (((0 + n.toNat * 1 : Nat)) : Int) ≤ _
      omega
theorem mul_ok {n : Int} (h0 : -2000 ≤ n) (h1 : n ≤ 2000) : MulOk " " n := by
  refine ⟨?_, fun a b => ?_, fun a b => ?_⟩
  · rw [Bool.or_eq_false_iff]
    exact ⟨decide_eq_false (by omega), decide_eq_false (by omega)⟩
  · rw [sp1]
    have : 1 ≤ (2 ^ 63 - 1) / n := (Int.le_ediv_iff_mul_le (by omega)).mpr (by omega)
    show ¬ ((1 : Nat) : Int) > _
    omega
  · rw [sp1]
    show decide (1 * n.toNat > sizeLine) = false
    have e : (2000 : Nat) ≤ sizeLine := by decide
    exact decide_eq_false (by omega)
theorem mul_max {n : Int} : Txt.mul " " (max 0 n) = Txt.mul " " n := by
  by_cases h : n < 1
  · unfold Txt.mul
    rw [if_pos h, if_pos (by omega)]
  · rw [show max 0 n = n by omega]
section
variable {P : Program} {w : World} {K : PySem.W.Frag} {mg : Str → Option Value} {base : Heap} {C Cn : Addr}
theorem ok_rpad (D : DefM K C "padded" "Ratio.padded" s_rpad) (T : Txt3 P w K mg C Cn) (Os : HasM P w K mg base CX0 1 C "__str__" ["self"] (spStr C)) : HasM P w K mg base CX0 4 C "padded" ["self", "width"] (spPad C) := by
  obtain ⟨f, fd, F, hs, hf⟩ := D
  refine ⟨f, fd, F.ok sc_rpad (fun vs H Q E h => ?_) (fun cdv A outer s H vs Q E hr h => ?_), hs, hf, F.kp, F.binds fun _ _ _ _ _ _ us hl => match us, hl with | [_, _], _ => rfl⟩
  · obtain ⟨p, a, b, n, rfl, _⟩ := h
    rfl
  obtain ⟨p, a, b, n, rfl, ⟨dx, hp⟩, sa, sb, hl, h0, h1, k⟩ := h
  refine ⟨_, (pss_cons (ps_set (i := 2) sc_rpad.nd rfl (Or.inl rfl) (pe_callTy (call_ownStr Os hr pass0) (by rfl) T.n_str (by decide +kernel) (pa_cons (pv 0) pa_nil)))
  (pss_one (ps_ret (pe_op op_add_str (pe_op op_mulS pe_str (pe_op op_sub (pv 1) (pe_callB call_len_str (by rfl) T.n_len (by decide +kernel) (pa_cons (pv 2) pa_nil)))) (pv 2))))), ?_⟩
  refine ⟨_, rfl, p, dx, _, rfl, hp, p, a, b, rfl, ⟨dx, hp⟩, sa, sb, hl, _, rfl, ?_⟩
  have l1 : (1000 : Nat) ≤ sizeLine := by decide
  refine ⟨_, rfl, _, rfl, _, rfl, Nat.le_trans hl l1, _, _, rfl, rfl, _, _, rfl, rfl, mul_ok (by omega) (by omega), _, rfl, _, _, rfl, rfl, ?_, k⟩
  have := @mul_len (n - ((txt a b).length : Int))
  have l2 : (1100 : Nat) ≤ sizeLine := by decide
  omega
def spMade : Sp := fun vs H Q _ => ∃ p q : Int, vs = [.int p, .int q] ∧ Sz 4000 q ∧ (q = 0 → ∀ H', Same H H' → Q (.str "refused") H') ∧
  (q ≠ 0 → ∀ t H', Same H H' → H t = none → H' t = some (.tup [.int (low p q).1, .int (low p q).2]) → Q (.ref t) H')
theorem ok_made (D : Def K mg "_law_made" s_made) (T : Txt3 P w K mg C Cn) (O : Or P w K mg base C Cn) (Op : HasFn P w K mg base CX0 1 "_law_parts" ["_law_ratio"] (spParts C)) : HasFn P w K mg base CX0 4 "_law_made" ["_law_top", "_law_bottom"] spMade := by
  obtain ⟨f, fd, F, hm⟩ := D
  refine ⟨f, fd, F.ok sc_made (fun vs H Q E h => ?_) (fun cdv A outer s H vs Q E hr h => ?_), hm, F.kp, F.binds fun _ _ _ _ _ _ us hl => match us, hl with | [_, _], _ => rfl⟩
  · obtain ⟨p, q, rfl, _⟩ := h
    rfl
  obtain ⟨p, q, rfl, sq, k0, k1⟩ := h
  refine ⟨_, (pss_cons (ps_set (i := 2) sc_made.nd rfl (Or.inl rfl) pe_str)
    (pss_cons (ps_try_only (c := .ref Cn)
      (tb := fun W => tAsg (tCallO (spParts C) E0 (tCons (tMakeO C (spRInit C Cn) [] (WE W) (tCons (tVar 0) (tCons (tVar 1) tNil))) tNil)) (gName 2))
      (ts := fun _ _ _ => tAsg (tC (.str "refused")) (gName 2)) rfl rfl ⟨rfl, by decide, .inl T.x_NoRatio.gC⟩ takes0
      (fun W pn xe tk _ => pss_one (ps_set (i := 2) sc_made.nd rfl (Or.inl rfl) (pe_callO Op hr (by rfl) pass0 (pa_cons (pe_makeS O.Ratio2 hr (by rfl) (fun σ => passAt tk σ) (pa_cons (pv 0) (pa_cons (pv 1) pa_nil))) pa_nil))))
      (fun a oe cls d pn _ _ => pss_one (ps_set (i := 2) sc_made.nd rfl (Or.inl rfl) pe_str)))
      (pss_one (ps_ret (pv 2))))), ?_⟩
  refine ⟨_, rfl, _, rfl, fun x dx nx nd nz => ⟨x, dx, p, q, rfl, upd_same, sq, fun z => ?_, fun z => ⟨rfl, ?_⟩⟩⟩
  · refine ⟨_, T.ex, fun _ a _ => ?_, fun e => by cases e⟩
    refine ⟨_, rfl, k0 z _ ?_⟩
    exact fun b o e => by
      rw [upd_ne (ne_of_none e nx), upd_ne (ne_of_none e nd)]
      exact e
  · refine ⟨x, _, _, rfl, ⟨dx, upd_same⟩, fun t nt => ⟨_, rfl, ?_⟩⟩
    have s1 := newR (o1 := .ins C dx []) (o2 := .ins C dx (flds (low p q).1 (low p q).2)) nx nd
    exact k1 z t _ (s1.trans (sN nt)) (s1.free nt) upd_same
/-! ### two entries -/
/-- an entry: a ratio beside its lowest terms -/
structure Ent (C : Addr) (H : Hp) (e : Addr) (a b : Int) : Prop where
  ex : ∃ r t, H e = some (.tup [.ref r, .ref t]) ∧ RatAt C H r a b ∧ H t = some (.tup [.int a, .int b])
  lo : Low a b
  sa : Sz 200 a
  sb : Sz 200 b
theorem Ent.same {H H' : Hp} {e : Addr} {a b : Int} (s : Same H H') (h : Ent C H e a b) : Ent C H' e a b := by
  obtain ⟨r, t, h1, h2, h3⟩ := h.ex
  exact ⟨⟨r, t, s _ _ h1, h2.same s, s _ _ h3⟩, h.lo, h.sa, h.sb⟩
theorem ne_pair {H : Hp} {p q : Addr} {a b : Int} {Q : VK} (h1 : H p = some (.tup [.int a, .int b])) (h2 : H q = some (.tup [.int a, .int b])) (k : Q (.bl false) H) : rNeD K (.ref p) (.ref q) H Q := by
  refine ⟨.tuple [.int a, .int b], .tuple [.int a, .int b], .tup (.of h1) (.cons (.int _) (.cons (.int _) .nil)), .tup (.of h2) (.cons (.int _) (.cons (.int _) .nil)), rfl, rfl, ?_⟩
  rw [SeqAt.eqv_refl (.tuple [.int a, .int b]) rfl]
  exact k
end
end Law

set_option Elab.async false
set_option linter.all false
set_option maxRecDepth 100000
set_option maxHeartbeats 4000000
namespace Law
open PySem L2 Rat3
theorem iteF2 {c : Bool} {P Q : Prop} (h : c = false) (q : Q) : if c = true then P else Q := by rw [h]; exact iteF q
theorem txt_len {a b : Int} (sa : Sz 400 a) (sb : Sz 400 b) : (txt a b).length ≤ 1000 := by
  have l : ∀ {z : Int}, Sz 400 z → ((toString z : String) : Str).length ≤ 401 := fun {z} h => by
    have := PySem.int_text_length_le (a := z) (k := 400) (by decide) (PySem.Flt.log2_lt_of (by decide) h)
    have e : ((toString z : String) : Str).length = (toString z).length := by
      show (Str.ofString (toString z)).length = _
      exact PySem.ofString_length _
    omega
  have h1 := l sa
  have h2 := l sb
  have h3 : ("/" : Str).length = 1 := by decide +kernel
  unfold txt
  split
  · omega
  · rw [strLen_append, strLen_append]
    omega
section
variable {P : Program} {w : World} {K : PySem.W.Frag} {mg : Str → Option Value} {base : Heap} {C Cn : Addr}
structure On (P : Program) (w : World) (K : PySem.W.Frag) (mg : Str → Option Value) (base : Heap) (C Cn : Addr) : Prop where
  law_feed : HasFn P w K mg base CX0 1 "_law_feed" ["_law_script", "_law_k"] (spFeed K)
  law_take : HasFn P w K mg base CX0 1 "_law_take" ["_law_feed_here", "_law_many"] spTake
  law_same : HasG P w K mg base CX0 1 "_law_same" ["_law_one", "_law_other"] (spSame K)
  law_lowest : HasFn P w K mg base CX0 1 "_law_lowest" ["_law_top", "_law_bottom"] spLowest
  law_parts : HasFn P w K mg base CX0 1 "_law_parts" ["_law_ratio"] (spParts C)
  law_made : HasFn P w K mg base CX0 4 "_law_made" ["_law_top", "_law_bottom"] spMade
  Ratio2 : HasC P w K mg base (L2.CX P w) 2 C "Ratio" ["self", "top", "bottom"] [] (spRInit C Cn)
  Ratio1 : HasC P w K mg base (L2.CX P w) 2 C "Ratio" ["self", "top", "bottom"] [.int 1] (spRInit C Cn)
  m_add : HasM P w K mg base CX0 4 C "__add__" ["self", "other"] (spOp2 C fAdd)
  m_sub : HasM P w K mg base CX0 4 C "__sub__" ["self", "other"] (spOp2 C fSub)
  m_mul : HasM P w K mg base CX0 4 C "__mul__" ["self", "other"] (spOp2 C fMul)
  m_neg : HasM P w K mg base CX0 4 C "__neg__" ["self"] (spNeg C)
  m_bool : HasM P w K mg base CX0 1 C "__bool__" ["self"] (spBool C)
  m_below : HasM P w K mg base CX0 1 C "below" ["self", "other"] (spBelow C)
  m_eq : HasM P w K mg base CX0 1 C "__eq__" ["self", "other"] (spEq2 K C)
  m_str : HasM P w K mg base CX0 1 C "__str__" ["self"] (spStr C)
  m_padded : HasM P w K mg base CX0 4 C "padded" ["self", "width"] (spPad C)
/-- every pair of entries is right -/
def spPair (C : Addr) : Sp := fun vs H Q _ => ∃ (e1 e2 : Addr) (a b c d : Int), vs = [.ref e1, .ref e2] ∧ Ent C H e1 a b ∧ Ent C H e2 c d ∧ ∀ H', Same H H' → Q (.bl true) H'
theorem ok_pair (D : Def K mg "_law_pair_right" s_pair) (T : Txt3 P w K mg C Cn) (O : On P w K mg base C Cn) : HasG P w K mg base CX0 5 "_law_pair_right" ["_law_one", "_law_other"] (spPair C) := by
  obtain ⟨f, fd, F, hm⟩ := D
  refine ⟨f, fd, F.okG sc_pair (fun vs H Q E h => ?_) (fun cdv A outer s H vs Q E hgs hr h => ?_), hm, F.kp, F.binds fun _ _ _ _ _ _ us hl => match us, hl with | [_, _], _ => rfl⟩
  · obtain ⟨e1, e2, a, b, c, d, rfl, _⟩ := h
    rfl
  obtain ⟨e1, e2, a, b, c, d, rfl, n1, n2, k⟩ := h
  refine ⟨_, (pss_cons (ps_asg (pe_tup (pa_cons (pv 0) (pa_cons (pv 1) pa_nil))) (pg_tup rfl (pgs_cons (pg_tup rfl (pgs_cons (pg_name (i := 2) sc_pair.nd rfl (Or.inl rfl)) (pgs_cons (pg_tup rfl (pgs_cons (pg_name (i := 3) sc_pair.nd rfl (Or.inl rfl)) (pgs_cons (pg_name (i := 4) sc_pair.nd rfl (Or.inl rfl)) pgs_nil))) pgs_nil))) (pgs_cons (pg_tup rfl (pgs_cons (pg_name (i := 5) sc_pair.nd rfl (Or.inl rfl)) (pgs_cons (pg_tup rfl (pgs_cons (pg_name (i := 6) sc_pair.nd rfl (Or.inl rfl)) (pgs_cons (pg_name (i := 7) sc_pair.nd rfl (Or.inl rfl)) pgs_nil))) pgs_nil))) pgs_nil))))
  (pss_cons (ps_if (pt_cmpR (op_neD hr.units) (pe_callO O.law_parts hr (by rfl) pass0 (pa_cons (pe_op (op_own O.m_add T.sf hr pass0) (pv 2) (pv 5)) pa_nil)) (pe_callO O.law_lowest hr (by rfl) pass0 (pa_cons (pe_op op_add (pe_op op_mulW (pv 3) (pv 7)) (pe_op op_mulW (pv 6) (pv 4))) (pa_cons (pe_op op_mulW (pv 4) (pv 7)) pa_nil))) (nomark _))
  (pss_one (ps_ret pe_bl))
  pss_nil)
  (pss_cons (ps_if (pt_cmpR (op_neD hr.units) (pe_callO O.law_parts hr (by rfl) pass0 (pa_cons (pe_op (op_own O.m_sub T.sf hr pass0) (pv 2) (pv 5)) pa_nil)) (pe_callO O.law_lowest hr (by rfl) pass0 (pa_cons (pe_op op_sub (pe_op op_mulW (pv 3) (pv 7)) (pe_op op_mulW (pv 6) (pv 4))) (pa_cons (pe_op op_mulW (pv 4) (pv 7)) pa_nil))) (nomark _))
  (pss_one (ps_ret pe_bl))
  pss_nil)
  (pss_cons (ps_if (PW.pt (pw_or (pt_cmpR (op_neD hr.units) (pe_callO O.law_parts hr (by rfl) pass0 (pa_cons (pe_op (op_own O.m_mul T.sf hr pass0) (pv 2) (pv 5)) pa_nil)) (pe_callO O.law_lowest hr (by rfl) pass0 (pa_cons (pe_op op_mulW (pv 3) (pv 6)) (pa_cons (pe_op op_mulW (pv 4) (pv 7)) pa_nil))) (nomark _)) (pw_or1 (pt_cmpR op_ne (pe_cmpR (op_ownEq O.m_eq hr pass0) (pv 2) (pv 5) (nomark _)) (pe_cmpR op_eq (pe_op op_mulW (pv 3) (pv 7)) (pe_op op_mulW (pv 6) (pv 4)) (nomark _)) (nomark _)))))
  (pss_one (ps_ret pe_bl))
  pss_nil)
  (pss_cons (ps_if (PW.pt (pw_or (pt_cmpR (op_ownEq O.m_eq hr pass0) (pv 2) (pv 3) (nomark _)) (pw_or (pt_cmpR (op_ownEq O.m_eq hr pass0) (pv 2) (pe_tup (pa_cons (pv 3) (pa_cons (pv 4) pa_nil))) (nomark _)) (pw_or1 (pt_cmpR (op_ownEq O.m_eq hr pass0) (pv 2) (pe_callTy (call_ownStr O.m_str hr pass0) (by rfl) T.n_str (by decide +kernel) (pa_cons (pv 2) pa_nil)) (nomark _))))))
  (pss_one (ps_ret pe_bl))
  pss_nil)
  (pss_one (ps_ret (pe_callOG O.law_same hgs hr (by rfl) pass0 (pa_cons (pe_methO (pv 2) T.cl O.m_below hr pass0 (pa_cons (pv 5) pa_nil)) (pa_cons (pe_cmpR op_lt (pe_op op_mulW (pv 3) (pv 7)) (pe_op op_mulW (pv 6) (pv 4)) (nomark _)) pa_nil)))))))))), ?_⟩
  obtain ⟨⟨l, tl, hl1, hl2, hl3⟩, lo1, sa, sb⟩ := n1
  obtain ⟨⟨r, tr, hr1, hr2, hr3⟩, lo2, sc, sd⟩ := n2
  have hb : 0 < b := lo1.1
  have hd : 0 < d := lo2.1
  have ne : b * d ≠ 0 := Int.mul_ne_zero (by omega) (by omega)
  have m4 : ∀ {z : Int}, Sz 200 z → Sz 400 z := fun z => z.mono (by decide)
  have sbd : Sz 4000 (b * d) := (sb.mul sd).mono (by decide)
  refine ⟨_, rfl, _, rfl, by show 2 ≤ sizeLine; decide, fun p np => ?_⟩
  have s0 : Same H (upd H p (.tup [.ref e1, .ref e2])) := sN np
  refine ⟨p, _, rfl, .of upd_same, rfl, _, _, rfl, ⟨e1, _, rfl, .of (s0 _ _ hl1), rfl, _, _, rfl, _, _, rfl, ⟨tl, _, rfl, .of (s0 _ _ hl3), rfl, _, _, rfl, _, _, rfl, rfl, rfl, _, _, rfl, ⟨e2, _, rfl, .of (s0 _ _ hr1), rfl, _, _, rfl, _, _, rfl, ⟨tr, _, rfl, .of (s0 _ _ hr3), rfl, _, _, rfl, _, _, rfl, rfl, rfl, rfl, ?_⟩⟩⟩⟩⟩
  revert s0
  generalize upd H p (.tup [.ref e1, .ref e2]) = H1
  intro s0
  obtain ⟨dl, dl2⟩ := hl2
  obtain ⟨dr, dr2⟩ := hr2
  refine ⟨_, rfl, _, rfl, l, r, dl, dr, _, _, rfl, rfl, s0 _ _ dl2, s0 _ _ dr2, l, r, a, b, c, d, rfl, ⟨dl, s0 _ _ dl2⟩, ⟨dr, s0 _ _ dr2⟩, m4 sa, m4 sb, m4 sc, m4 sd, hb, hd, fun x H2 s2 nx hx => ⟨x, _, _, rfl, hx, fun t nt => ?_⟩⟩
  refine ⟨_, rfl, _, rfl, _, _, rfl, rfl, Sz.cmul sa sd, _, rfl, _, rfl, _, _, rfl, rfl, Sz.cmul sc sb, _, _, rfl, rfl, _, rfl, _, rfl, _, _, rfl, rfl, Sz.cmul sb sd, _, _, rfl, ne, sbd, fun t2 nt2 => ne_pair (sN nt2 _ _ upd_same) upd_same ⟨_, rfl, iteF ?_⟩⟩
  have s3 := ((s0.trans s2).trans (sN (o := .tup [.int (fAdd a b c d).1, .int (fAdd a b c d).2]) nt)).trans (sN (o := .tup [.int (low (a * d + c * b) (b * d)).1, .int (low (a * d + c * b) (b * d)).2]) nt2)
  clear s0
  revert s3
  generalize upd (upd H2 t _) t2 _ = H3
  intro s0
  clear nt2 nt hx nx s2
  refine ⟨_, rfl, _, rfl, l, r, dl, dr, _, _, rfl, rfl, s0 _ _ dl2, s0 _ _ dr2, l, r, a, b, c, d, rfl, ⟨dl, s0 _ _ dl2⟩, ⟨dr, s0 _ _ dr2⟩, m4 sa, m4 sb, m4 sc, m4 sd, hb, hd, fun x H2 s2 nx hx => ⟨x, _, _, rfl, hx, fun t nt => ?_⟩⟩
  refine ⟨_, rfl, _, rfl, _, _, rfl, rfl, Sz.cmul sa sd, _, rfl, _, rfl, _, _, rfl, rfl, Sz.cmul sc sb, _, _, rfl, rfl, _, rfl, _, rfl, _, _, rfl, rfl, Sz.cmul sb sd, _, _, rfl, ne, sbd, fun t2 nt2 => ne_pair (sN nt2 _ _ upd_same) upd_same ⟨_, rfl, iteF ?_⟩⟩
  have s3 := ((s0.trans s2).trans (sN (o := .tup [.int (fSub a b c d).1, .int (fSub a b c d).2]) nt)).trans (sN (o := .tup [.int (low (a * d - c * b) (b * d)).1, .int (low (a * d - c * b) (b * d)).2]) nt2)
  clear s0
  revert s3
  generalize upd (upd H2 t _) t2 _ = H3
  intro s0
  clear nt2 nt hx nx s2
  refine ⟨_, rfl, _, rfl, l, r, dl, dr, _, _, rfl, rfl, s0 _ _ dl2, s0 _ _ dr2, l, r, a, b, c, d, rfl, ⟨dl, s0 _ _ dl2⟩, ⟨dr, s0 _ _ dr2⟩, m4 sa, m4 sb, m4 sc, m4 sd, hb, hd, fun x H2 s2 nx hx => ⟨x, _, _, rfl, hx, fun t nt => ?_⟩⟩
  refine ⟨_, rfl, _, rfl, _, _, rfl, rfl, Sz.cmul sa sc, _, rfl, _, rfl, _, _, rfl, rfl, Sz.cmul sb sd, _, _, rfl, ne, sbd, fun t2 nt2 => ne_pair (sN nt2 _ _ upd_same) upd_same ⟨_, rfl, iteF ?_⟩⟩
  have s3 := ((s0.trans s2).trans (sN (o := .tup [.int (fMul a b c d).1, .int (fMul a b c d).2]) nt)).trans (sN (o := .tup [.int (low (a * c) (b * d)).1, .int (low (a * c) (b * d)).2]) nt2)
  clear s0
  revert s3
  generalize upd (upd H2 t _) t2 _ = H3
  intro s0
  clear nt2 nt hx nx s2
  have tyR : TyX K H3 (.ref r) (.ref C) := .base (.ins (s0 _ _ dr2) T.cl T.ca T.cb T.cc T.cd)
  have nfC : PySem.W.notFirst K C (.ref C) = true := by simp [PySem.W.notFirst]
  have eq3 : (decide (a = c) && decide (b = d)) = decide (V.int (a * d) = V.int (c * b)) := by
    rw [← Bool.decide_and]
    exact decide_eq_decide.mpr ⟨fun z => congrArg V.int ((eq_iff lo1 lo2).mp z), fun z => (eq_iff lo1 lo2).mpr (V.int.inj z)⟩
  refine ⟨_, rfl, _, rfl, l, dl, _, .ref C, rfl, s0 _ _ dl2, tyR, nfC, l, a, b, .ref r, rfl, ⟨dl, s0 _ _ dl2⟩, .inl ⟨r, c, d, rfl, ⟨dr, s0 _ _ dr2⟩, ?_⟩⟩
  refine ⟨_, rfl, _, rfl, _, _, rfl, rfl, Sz.cmul sa sd, _, rfl, _, rfl, _, _, rfl, rfl, Sz.cmul sc sb, rfl, rfl, _, rfl, iteF2 ?_ ?_⟩
  · rw [eq3]
    simp
  refine ⟨_, rfl, _, rfl, l, dl, _, .type "int", rfl, s0 _ _ dl2, .base (.int a), T.nfI, l, a, b, .int a, rfl, ⟨dl, s0 _ _ dl2⟩, .inr ⟨_, .base (.int a), T.kI, _, rfl, iteF ?_⟩⟩
  refine ⟨_, rfl, _, rfl, _, rfl, by show 2 ≤ sizeLine; decide, fun u nu => ?_⟩
  have s4 := s0.trans (sN (o := .tup [.int a, .int b]) nu)
  have tu : upd H3 u (.tup [.int a, .int b]) u = some (.tup [.int a, .int b]) := upd_same
  clear tyR s0
  revert s4 tu
  generalize upd H3 u _ = H4
  intro s0 tu
  refine ⟨l, dl, _, .type "tuple", rfl, s0 _ _ dl2, .base (.tup tu), T.nfT, l, a, b, .ref u, rfl, ⟨dl, s0 _ _ dl2⟩, .inr ⟨_, .base (.tup tu), T.kT, _, rfl, iteF ?_⟩⟩
  refine ⟨_, rfl, _, rfl, l, dl, _, rfl, s0 _ _ dl2, l, a, b, rfl, ⟨dl, s0 _ _ dl2⟩, m4 sa, m4 sb, txt_len (m4 sa) (m4 sb), _, rfl, l, dl, _, .type "str", rfl, s0 _ _ dl2, .base (.str _), T.nfS, l, a, b, _, rfl, ⟨dl, s0 _ _ dl2⟩, .inr ⟨_, .base (.str _), T.kS, _, rfl, iteF ?_⟩⟩
  refine ⟨_, rfl, l, dl, _, rfl, s0 _ _ dl2, flds_no _ _ (by decide +kernel) (by decide +kernel), _, rfl, l, r, a, b, c, d, rfl, ⟨dl, s0 _ _ dl2⟩, ⟨dr, s0 _ _ dr2⟩, m4 sa, m4 sb, m4 sc, m4 sd, ?_⟩
  refine ⟨_, rfl, _, rfl, _, _, rfl, rfl, Sz.cmul sa sd, _, rfl, _, rfl, _, _, rfl, rfl, Sz.cmul sc sb, _, _, rfl, rfl, _, _, _, _, rfl, ⟨.bl _, rfl, rfl, (by show 0 ≤ 60; decide), ?_⟩, ⟨.bl _, rfl, rfl, (by show 0 ≤ 60; decide), ?_⟩, ?_⟩
  · cases decide (a * d < c * b) <;> decide +kernel
  · cases decide (a * d < c * b) <;> decide +kernel
  · rw [decide_eq_true rfl]
    exact k _ s0
end
end Law

set_option Elab.async false
set_option linter.all false
set_option maxRecDepth 100000
set_option maxHeartbeats 4000000
namespace Law
open PySem L2 Rat3
/-- all but the lists stay -/
def Kp (H H' : Hp) : Prop := ∀ b o, (∀ xs, o ≠ HO.lst xs) → H b = some o → H' b = some o
theorem Same.kp {H H' : Hp} (s : Same H H') : Kp H H' := fun b o _ h => s b o h
theorem kp_upd {H : Hp} {p : Addr} {xs ys : List V} (h : H p = some (.lst xs)) : Kp H (upd H p (.lst ys)) := fun b o n e => by
  by_cases hb : b = p
  · subst hb
    rw [h] at e
    exact absurd (Option.some.inj e).symm (n xs)
  · rw [upd_ne hb]
    exact e
theorem Ent.kp {C : Addr} {H H' : Hp} {e : Addr} {a b : Int} (s : Kp H H') (h : Ent C H e a b) : Ent C H' e a b := by
  obtain ⟨r, t, h1, ⟨dx, h2⟩, h3⟩ := h.ex
  exact ⟨⟨r, t, s _ _ (fun _ z => by cases z) h1, ⟨dx, s _ _ (fun _ z => by cases z) h2⟩, s _ _ (fun _ z => by cases z) h3⟩, h.lo, h.sa, h.sb⟩
/-- the law's store within a turn: the feed at p, the entries es in the list at L -/
structure S3 (C : Addr) (n : Nat) (H : Hp) (p L : Addr) (es : List (Addr × Int × Int)) (H1 : Hp) : Prop where
  sm : Same H H1
  np : H p = none
  nL : H L = none
  pL : p ≠ L
  hp : ∃ own st : Int, H1 p = some (.lst [.int own, .int st]) ∧ 0 ≤ own ∧ 0 < st ∧ st < 4294967296
  hL : H1 L = some (.lst (es.map fun e => .ref e.1))
  en : ∀ e ∈ es, Ent C H1 e.1 e.2.1 e.2.2 ∧ Sz n e.2.1 ∧ Sz n e.2.2
section
variable {C Cn : Addr} {n : Nat} {H H1 H2 : Hp} {p L : Addr} {es : List (Addr × Int × Int)} {Q : VK} {E : XK}
theorem same_upd (s : Same H H1) (np : H p = none) {o : HO} : Same H (upd H1 p o) := fun b x e => by
  rw [upd_ne (ne_of_none e np)]
  exact s b x e
theorem S3.grow (S : S3 C n H p L es H1) (s : Same H1 H2) : S3 C n H p L es H2 :=
  ⟨S.sm.trans s, S.np, S.nL, S.pL, let ⟨o, t, h, r⟩ := S.hp; ⟨o, t, s _ _ h, r⟩, s _ _ S.hL, fun e he => ⟨(S.en e he).1.same s, (S.en e he).2⟩⟩
theorem S3.mono {m : Nat} (S : S3 C n H p L es H1) (h : n ≤ m) : S3 C m H p L es H1 := ⟨S.sm, S.np, S.nL, S.pL, S.hp, S.hL, fun e he => ⟨(S.en e he).1, (S.en e he).2.1.mono h, (S.en e he).2.2.mono h⟩⟩
theorem S3.take (S : S3 C n H p L es H1) {many : Int} (h0 : 0 < many) (h1 : many < 18446744073709551616) (k : ∀ d H2, S3 C n H p L es H2 → Kp H1 H2 → 0 ≤ d → d < many → Q (.int d) H2) : spTake [.ref p, .int many] H1 Q E := by
  obtain ⟨own, st, hp, a, b, c⟩ := S.hp
  refine ⟨p, own, st, many, rfl, hp, a, b, c, h0, h1, fun d own' st' d0 d1 o0 t0 t1 => k d _ ?_ (kp_upd hp) d0 d1⟩
  exact ⟨same_upd S.sm S.np, S.np, S.nL, S.pL, ⟨_, _, upd_same, o0, t0, t1⟩, by rw [upd_ne (Ne.symm S.pL)]; exact S.hL, fun e he => ⟨(S.en e he).1.kp (kp_upd hp), (S.en e he).2⟩⟩
theorem S3.took (S : S3 C n H p L es H1) {xs : List V} {own st : Int} (h : H1 p = some (.lst xs)) (a : 0 ≤ own) (b : 0 < st) (c : st < 4294967296) : S3 C n H p L es (upd H1 p (.lst [.int own, .int st])) :=
  ⟨same_upd S.sm S.np, S.np, S.nL, S.pL, ⟨_, _, upd_same, a, b, c⟩, by rw [upd_ne (Ne.symm S.pL)]; exact S.hL, fun e he => ⟨(S.en e he).1.kp (kp_upd h), (S.en e he).2⟩⟩
theorem S3.app (S : S3 C n H p L es H1) {e : Addr} {a b : Int} (he : Ent C H1 e a b) (sa : Sz n a) (sb : Sz n b) : S3 C n H p L (es ++ [(e, a, b)]) (upd H1 L (.lst ((es.map fun e => V.ref e.1) ++ [.ref e]))) := by
  refine ⟨same_upd S.sm S.nL, S.np, S.nL, S.pL, ?_, ?_, fun x hx => ?_⟩
  · rw [upd_ne S.pL]
    exact S.hp
  · rw [upd_same, List.map_append]
    rfl
  · rcases List.mem_append.mp hx with h | h
    · exact ⟨(S.en x h).1.kp (kp_upd S.hL), (S.en x h).2⟩
    · simp only [List.mem_singleton] at h
      subst h
      exact ⟨he.kp (kp_upd S.hL), sa, sb⟩
theorem lowest_ok {q r : Int} (hr : r ≠ 0) (hz : Sz 4000 r) (k : ∀ t H2, Same H1 H2 → H2 t = some (.tup [.int (low q r).1, .int (low q r).2]) → Q (.ref t) H2) : spLowest [.int q, .int r] H1 Q E :=
  ⟨q, r, rfl, hr, hz, fun t nt => k t _ (sN nt) upd_same⟩
theorem make_ok {q r : Int} (hr : r ≠ 0) (hz : Sz 4000 r) (k : ∀ x H2, Same H1 H2 → RatAt C H2 x (low q r).1 (low q r).2 → Q (.ref x) H2) :
    ∀ x dx, H1 x = none → H1 dx = none → dx ≠ x → spRInit C Cn (.ref x :: [.int q, .int r]) (upd (upd H1 dx (.own x)) x (.ins C dx [])) (fun v H2 => v = .non ∧ Q (.ref x) H2) E :=
  fun x dx nx nd nz => ⟨x, dx, q, r, rfl, upd_same, hz, fun z => absurd z hr, fun _ => ⟨rfl, k x _ (newR nx nd) ⟨dx, upd_same⟩⟩⟩
theorem seq_if {tc : TT} {t r : TS} {D : Ends} {σ : St} (Z : Hp → Prop) (hZ : ∀ H', Z H' → r D σ H') (h : (∀ H', Z H' → r D σ H') → tc σ H1 fun b H' => if b = true then t { D with nx := r D } σ H' else r D σ H') : tSeq (tIfS tc t tNext) r D σ H1 := h hZ
theorem one_if {tc : TT} {t : TS} {D : Ends} {σ : St} (Z : Hp → Prop) (hZ : ∀ H', Z H' → D.nx σ H') (h : (∀ H', Z H' → D.nx σ H') → tc σ H1 fun b H' => if b = true then t D σ H' else D.nx σ H') : tIfS tc t tNext D σ H1 := h hZ
theorem szi {a : Int} (h1 : -18446744073709551616 < a) (h2 : a < 18446744073709551616) : Sz 64 a := by
  unfold Sz
  have : (2 : Nat) ^ 64 = 18446744073709551616 := by decide
  omega
end
/-- the three sizes -/
theorem sizes {i : Int} : ∃ m : Int, atI [V.int 9, V.int 1000, V.int (10 ^ (16 : Int).toNat)] (i % 3) = some (.int m) ∧ 0 < m ∧ m ≤ 10000000000000000 := by
  have h : i % 3 = 0 ∨ i % 3 = 1 ∨ i % 3 = 2 := by omega
  rcases h with h | h | h <;> rw [h]
  · exact ⟨9, rfl, by decide, by decide⟩
  · exact ⟨1000, rfl, by decide, by decide⟩
  · exact ⟨10 ^ (16 : Int).toNat, rfl, by decide, by decide⟩
theorem text_eq (a b : Int) : ((toString a : String) : Str) ++ Txt.mul (("/" : Str) ++ ((toString b : String) : Str)) (if (!decide (V.int b = V.int 1)) = true then 1 else 0) = txt a b := by
  have ea : ∀ x : Str, x ++ Str.empty = x := fun x => PySem.Str.append_empty x
  by_cases h : b = 1
  · subst h
    rw [decide_eq_true rfl]
    have : Txt.mul (("/" : Str) ++ ((toString (1 : Int) : String) : Str)) 0 = Str.empty := rfl
    show _ ++ Txt.mul _ 0 = _
    rw [this, ea]
    unfold txt
    rw [if_pos rfl]
  · rw [decide_eq_false (fun z => h (V.int.inj z))]
    show _ ++ Txt.mul (("/" : Str) ++ ((toString b : String) : Str)) 1 = _
    have : Txt.mul (("/" : Str) ++ ((toString b : String) : Str)) 1 = ("/" : Str) ++ ((toString b : String) : Str) := rfl
    rw [this]
    unfold txt
    rw [if_neg h]
    exact (PySem.Str.append_assoc _ _ _).symm
theorem mul01 (z : Str) (hz : z.length ≤ 1000) (c : Bool) : MulOk z (if c = true then 1 else 0) := by
  cases c
  · exact ⟨by decide, fun h => absurd (by decide) h, fun h => absurd (by decide) h⟩
  · exact ⟨by decide, fun _ h => (by cases h), fun _ h => (by cases h)⟩
end Law

set_option Elab.async false
set_option linter.all false
set_option maxRecDepth 100000
set_option maxHeartbeats 4000000
namespace Law
open PySem L2 Rat3
theorem iteT2 {c : Bool} {P Q : Prop} (h : c = true) (p : P) : if c = true then P else Q := by rw [if_pos h]; exact p
theorem at0 {x : V} {zs : List V} : atI (x :: zs) 0 = some x := atI_nat (j := 0) rfl
theorem at1 {x y : V} {zs : List V} : atI (x :: y :: zs) 1 = some y := atI_nat (j := 1) rfl
theorem dec0 {a : Int} (h : a = 0) : decide (V.int a = V.int 0) = true := decide_eq_true (by rw [h])
theorem dec1 {a : Int} (h : a ≠ 0) : decide (V.int a = V.int 0) = false := decide_eq_false fun z => h (V.int.inj z)
theorem mul_if {n : Int} : Txt.mul " " (if n > 0 then n else 0) = Txt.mul " " n := by
  by_cases h : n > 0
  · rw [if_pos h]
  · rw [if_neg h]
    unfold Txt.mul
    rw [if_pos (by decide), if_pos (by omega)]
theorem bool_eq (a : Int) : (!decide (V.bl (a != 0) = V.bl (!decide (V.int a = V.int 0)))) = false := by
  by_cases h : a = 0
  · rw [dec0 h, h]
    rfl
  · rw [dec1 h, bne_iff_ne.mpr h]
    rfl
theorem nes {z : Str} (hz : SeqAt.shaped (.str z) = true) : (!PyData.eqv (.str z) (.str z)) = false := by
  rw [SeqAt.eqv_refl _ (SeqAt.canLay_of_shaped hz)]
  rfl
theorem nep {a b : Int} : (!PyData.eqv (.tuple [.int a, .int b]) (.tuple [.int a, .int b])) = false := by
  rw [SeqAt.eqv_refl (.tuple [.int a, .int b]) rfl]
  rfl
def spLaw (K : PySem.W.Frag) : Sp := fun vs H Q _ => ∃ (a : Addr) (ns : List Int), vs = [.ref a] ∧ SqL K H a (ns.map V.int) ∧ ns.length ≤ 63 ∧ ∀ H', Q (.bl true) H'
section
variable {P : Program} {w : World} {K : PySem.W.Frag} {mg : Str → Option Value} {base : Heap} {C Cn : Addr}
structure Oq (P : Program) (w : World) (K : PySem.W.Frag) (mg : Str → Option Value) (base : Heap) (C Cn : Addr) : Prop extends On P w K mg base C Cn where
  law_pair_right : HasG P w K mg base CX0 5 "_law_pair_right" ["_law_one", "_law_other"] (spPair C)
theorem ok_law {f : Addr} {fd : FuncData} (F : Fun K "law" "law" s_law f fd) (T : Txt3 P w K mg C Cn) (O : Oq P w K mg base C Cn) : FnG P w K mg base CX0 6 f fd ["_law_script"] (spLaw K) := by
  refine F.okG sc_law (fun vs H Q E h => ?_) (fun cdv A outer s H vs Q E hgs hr h => ?_)
  · obtain ⟨a, ns, rfl, _⟩ := h
    rfl
  obtain ⟨a, ns, rfl, hS, hlen, k⟩ := h
  refine ⟨_, (pss_cons (ps_for PassesOwn.never rfl (pi_range1 (by rfl) T.n_range (pa_cons (pe_callB (call_max2 rfl) (by rfl) T.n_max (by decide +kernel) (pa_cons pe_int (pa_cons (pe_callB (call_min2 rfl) (by rfl) T.n_min (by decide +kernel) (pa_cons pe_int (pa_cons (pe_callB call_len_seq (by rfl) T.n_len (by decide +kernel) (pa_cons (pv 0) pa_nil)) pa_nil))) pa_nil))) pa_nil)) (pg_name (i := 1) sc_law.nd rfl (Or.inl rfl))
  (pss_cons (ps_set (i := 2) sc_law.nd rfl (Or.inl rfl) (pe_callO O.law_feed hr (by rfl) pass0 (pa_cons (pv 0) (pa_cons (pv 1) pa_nil))))
    (pss_cons (ps_set (i := 3) sc_law.nd rfl (Or.inl rfl) (pe_lst pa_nil))
    (pss_cons (ps_for PassesOwn.never rfl (pi_range1 (by rfl) T.n_range (pa_cons pe_int pa_nil)) (pg_name (i := 4) sc_law.nd rfl (Or.inl rfl))
    (pss_cons (ps_set (i := 5) sc_law.nd rfl (Or.inl rfl) (pe_op op_add pe_int (pe_callO O.law_take hr (by rfl) pass0 (pa_cons (pv 2) (pa_cons pe_int pa_nil)))))
      (pss_cons (ps_par (i := 6) (j := 7) (by rfl) sc_law.nd rfl rfl (by decide) rfl rfl (pa_cons (pe_op op_mulW (pv 5) (pe_op op_sub (pe_callO O.law_take hr (by rfl) pass0 (pa_cons (pv 2) (pa_cons (pe_ix ix_list (pe_lst (pa_cons pe_int (pa_cons pe_int (pa_cons (pe_op op_pow pe_int pe_int) pa_nil)))) (pe_op op_mod (pv 4) pe_int) (fun _ _ => rfl)) pa_nil))) pe_int)) (pa_cons (pe_op op_mulW (pv 5) (pe_op op_sub (pe_callO O.law_take hr (by rfl) pass0 (pa_cons (pv 2) (pa_cons pe_int pa_nil))) pe_int)) pa_nil)) (by rfl))
      (pss_cons (ps_if (pt_cmpR (op_neD hr.units) (pe_callO O.law_made hr (by rfl) pass0 (pa_cons (pv 6) (pa_cons (pv 7) pa_nil))) (pe_ifExp (pt_cmpR op_eq (pv 7) pe_int (nomark _)) pe_str (pe_callO O.law_lowest hr (by rfl) pass0 (pa_cons (pv 6) (pa_cons (pv 7) pa_nil)))) (nomark _))
      (pss_one (ps_ret pe_bl))
      pss_nil)
      (pss_cons (ps_set (i := 7) sc_law.nd rfl (Or.inl rfl) (pe_op op_add (pv 7) (pe_callTy call_int1 (by rfl) T.n_int (by decide +kernel) (pa_cons (pe_cmpR op_eq (pv 7) pe_int (nomark _)) pa_nil))))
      (pss_one (ps_expr (pe_bm PySem.F.plainAttrs_list PySem.F.slot_list_append PySem.F.type_list_append mt_append (pv 3) (pa_cons (pe_tup (pa_cons (pe_makeS O.Ratio2 hr (by rfl) passS (pa_cons (pv 6) (pa_cons (pv 7) pa_nil))) (pa_cons (pe_callO O.law_lowest hr (by rfl) pass0 (pa_cons (pv 6) (pa_cons (pv 7) pa_nil))) pa_nil))) pa_nil)))))))))
    (pss_cons (ps_par3 (i := 8) (j := 7) (l := 5) (by rfl) sc_law.nd rfl rfl rfl (by decide) (by decide) (by decide) rfl rfl rfl (pa_cons (pe_op op_add (pe_op op_pow pe_int pe_int) (pe_callO O.law_take hr (by rfl) pass0 (pa_cons (pv 2) (pa_cons (pe_op op_pow pe_int pe_int) pa_nil)))) (pa_cons (pe_op op_add pe_int (pe_callO O.law_take hr (by rfl) pass0 (pa_cons (pv 2) (pa_cons pe_int pa_nil)))) (pa_cons (pe_op op_add pe_int (pe_callO O.law_take hr (by rfl) pass0 (pa_cons (pv 2) (pa_cons pe_int pa_nil)))) pa_nil))) (by rfl))
    (pss_cons (ps_for PassesOwn.never rfl (pi_tup (pe_tup (pa_cons (pv 8) (pa_cons (pe_op op_add (pv 8) pe_int) pa_nil)))) (pg_name (i := 6) sc_law.nd rfl (Or.inl rfl))
    (pss_one (ps_expr (pe_bm PySem.F.plainAttrs_list PySem.F.slot_list_append PySem.F.type_list_append mt_append (pv 3) (pa_cons (pe_tup (pa_cons (pe_makeS O.Ratio2 hr (by rfl) passS (pa_cons (pe_op op_mulW (pv 6) (pv 5)) (pa_cons (pe_op op_mulW (pv 7) (pv 5)) pa_nil))) (pa_cons (pe_callO O.law_lowest hr (by rfl) pass0 (pa_cons (pv 6) (pa_cons (pv 7) pa_nil))) pa_nil))) pa_nil)))))
    (pss_cons (ps_asg (pe_tup (pa_cons (pe_ix ix_list (pv 3) pe_int (fun _ _ => rfl)) (pa_cons (pe_ix ix_list (pv 3) pe_int (fun _ _ => rfl)) pa_nil))) (pg_tup rfl (pgs_cons (pg_tup rfl (pgs_cons (pg_name (i := 9) sc_law.nd rfl (Or.inr rfl)) (pgs_cons (pg_tup rfl (pgs_cons (pg_name (i := 10) sc_law.nd rfl (Or.inl rfl)) (pgs_cons (pg_name (i := 11) sc_law.nd rfl (Or.inl rfl)) pgs_nil))) pgs_nil))) (pgs_cons (pg_tup rfl (pgs_cons (pg_name (i := 12) sc_law.nd rfl (Or.inl rfl)) (pgs_cons (pg_tup rfl (pgs_cons (pg_name (i := 13) sc_law.nd rfl (Or.inl rfl)) (pgs_cons (pg_name (i := 14) sc_law.nd rfl (Or.inl rfl)) pgs_nil))) pgs_nil))) pgs_nil))))
    (pss_cons (ps_expr (pe_bm PySem.F.plainAttrs_list PySem.F.slot_list_append PySem.F.type_list_append mt_append (pv 3) (pa_cons (pe_tup (pa_cons (pe_op (op_own O.m_mul T.sf hr pass0) (pe_op (op_own O.m_add T.sf hr pass0) (pv 9) (pv 12)) (pe_un (un_own O.m_neg hr pass0) (pv 9))) (pa_cons (pe_callO O.law_lowest hr (by rfl) pass0 (pa_cons (pe_op op_mulW (pe_op op_add (pe_op op_mulW (pv 10) (pv 14)) (pe_op op_mulW (pv 13) (pv 11))) (pe_op op_sub pe_int (pv 10))) (pa_cons (pe_op op_mulW (pe_op op_mulW (pv 11) (pv 14)) (pv 11)) pa_nil))) pa_nil))) pa_nil)))
    (pss_one (ps_for PassesOwn.never rfl (pi_list (pv 3)) (pg_name (i := 9) sc_law.nd rfl (Or.inr rfl))
    (pss_cons (ps_asg (pv 9) (pg_tup rfl (pgs_cons (pg_name (i := 15) sc_law.nd rfl (Or.inl rfl)) (pgs_cons (pg_tup rfl (pgs_cons (pg_name (i := 6) sc_law.nd rfl (Or.inl rfl)) (pgs_cons (pg_name (i := 7) sc_law.nd rfl (Or.inl rfl)) pgs_nil))) pgs_nil))))
      (pss_cons (ps_set (i := 16) sc_law.nd rfl (Or.inl rfl) (pe_op op_add_str (pe_callTy call_str_int (by rfl) T.n_str (by decide +kernel) (pa_cons (pv 6) pa_nil)) (pe_op op_mulS (pe_op op_add_str pe_str (pe_callTy call_str_int (by rfl) T.n_str (by decide +kernel) (pa_cons (pv 7) pa_nil))) (pe_callTy call_int1 (by rfl) T.n_int (by decide +kernel) (pa_cons (pe_cmpR op_ne (pv 7) pe_int (nomark _)) pa_nil)))))
      (pss_cons (ps_set (i := 17) sc_law.nd rfl (Or.inl rfl) (pe_op op_add pe_int (pe_callO O.law_take hr (by rfl) pass0 (pa_cons (pv 2) (pa_cons pe_int pa_nil)))))
      (pss_cons (ps_if (PW.pt (pw_or (pt_cmpR op_ne (pe_callTy (call_ownStr O.m_str hr pass0) (by rfl) T.n_str (by decide +kernel) (pa_cons (pv 15) pa_nil)) (pv 16) (nomark _)) (pw_or1 (pt_cmpR op_ne (pe_methO (pv 15) T.cl O.m_padded hr pass0 (pa_cons (pv 17) pa_nil)) (pe_op op_add_str (pe_op op_mulS pe_str (pe_callB (call_max2 rfl) (by rfl) T.n_max (by decide +kernel) (pa_cons pe_int (pa_cons (pe_op op_sub (pv 17) (pe_callB call_len_str (by rfl) T.n_len (by decide +kernel) (pa_cons (pv 16) pa_nil))) pa_nil)))) (pv 16)) (nomark _)))))
      (pss_one (ps_ret pe_bl))
      pss_nil)
      (pss_cons (ps_if (PW.pt (pw_or (pt_cmpR (op_neD hr.units) (pe_callO O.law_parts hr (by rfl) pass0 (pa_cons (pe_un (un_own O.m_neg hr pass0) (pv 15)) pa_nil)) (pe_tup (pa_cons (pe_op op_sub pe_int (pv 6)) (pa_cons (pv 7) pa_nil))) (nomark _)) (pw_or1 (pt_cmpR op_ne (pe_callTy (call_ownBool O.m_bool hr pass0) (by rfl) T.n_bool (by decide +kernel) (pa_cons (pv 15) pa_nil)) (pe_cmpR op_ne (pv 6) pe_int (nomark _)) (nomark _)))))
      (pss_one (ps_ret pe_bl))
      pss_nil)
      (pss_one (ps_if (PW.pt (pw_or (pt_cmpR (op_neD hr.units) (pe_callO O.law_parts hr (by rfl) pass0 (pa_cons (pe_makeS O.Ratio1 hr (by rfl) passS (pa_cons (pv 6) pa_nil)) pa_nil)) (pe_tup (pa_cons (pv 6) (pa_cons pe_int pa_nil))) (nomark _)) (pw_or1 (pt_cmpR (op_neD hr.units) (pe_lc (own := [("_law_other", 12)]) (g := gName 12) (by rfl) sc_law.nd (pi_list (pv 3)) (blkOk_by (own := [("_law_other", 12)]) (N := ["_law_script", "_law_k", "_law_feed_here", "_law_some", "_law_turn", "_law_part", "_law_top", "_law_bottom", "_law_great", "_law_one", "_law_a", "_law_b", "_law_other", "_law_c", "_law_d", "_law_ratio", "_law_text", "_law_width"]) (sc := defScope s_law) (by decide +kernel)) (fun _ _ _ _ _ => (pg_name (i := 12) sc_law.nd rfl (Or.inl rfl))) (fun _ _ _ _ _ => (pts_one (pt_not (pt_val (pe_callOG O.law_pair_right hgs hr (by rfl) pass0 (pa_cons (pv 9) (pa_cons (pv 12) pa_nil))))))) (fun _ _ _ _ _ => pe_int)) (pe_lst pa_nil) (nomark _)))))
      (pss_one (ps_ret pe_bl))
      pss_nil)))))))))))))))))
  (pss_one (ps_ret pe_bl))), ?_⟩
  refine ⟨_, rfl, a, _, rfl, .inl hS, _, _, rfl, _, _, rfl, _, rfl, by split <;> split <;> omega, by split <;> split <;> omega, for_range (lo := 0) (fun i σ H1 => ∃ v1 v2 v3 v4 v5 v6 v7 v8 v9 v10 v11 v12 v13 v14 v15 v16 v17 : Option V, σ = [some (.ref a), v1, v2, v3, v4, v5, v6, v7, v8, v9, v10, v11, v12, v13, v14, v15, v16, v17] ∧ Same H H1)
    ⟨_, _, _, _, _, _, _, _, _, _, _, _, _, _, _, _, _, rfl, Same.refl H⟩ ?_ ?_⟩
  rotate_left
  · rintro σ H1 _
    exact k H1
  rintro i σ H1 hi ⟨v1, v2, v3, v4, v5, v6, v7, v8, v9, v10, v11, v12, v13, v14, v15, v16, v17, rfl, s1⟩
  have hi3 : (0 : Int) + (i : Nat) < 1000 := by
    split at hi <;> split at hi <;> omega
  -- the feed
  refine ⟨_, rfl, _, rfl, a, ns, _, rfl, s1.seq hS, hlen, by omega, hi3, fun p own st np o0 u0 u1 => ?_⟩
  refine ⟨by show 0 ≤ sizeLine; decide, fun L nL => ?_⟩
  have pL : p ≠ L := fun z => by subst z; rw [upd_same] at nL; cases nL
  have S0 : S3 C 64 H p L [] (upd (upd H1 p (.lst [.int own, .int st])) L (.lst [])) :=
    ⟨(s1.trans (sN np)).trans (sN nL), s1.free np, (s1.trans (sN np)).free nL, pL, ⟨own, st, by rw [upd_ne pL, upd_same], o0, u0, u1⟩, upd_same, fun e he => (nomatch he)⟩
  generalize upd (upd H1 p (.lst [.int own, .int st])) L (.lst []) = H2 at S0
  -- the five draws
  refine ⟨_, rfl, by decide, by decide, for_range (lo := 0) (fun n σ H3 => ∃ es, ∃ v4 v5 v6 v7 v8 v9 v10 v11 v12 v13 v14 v15 v16 v17 : Option V, σ = [some (.ref a), some (.int (0 + (i : Nat))), some (.ref p), some (.ref L), v4, v5, v6, v7, v8, v9, v10, v11, v12, v13, v14, v15, v16, v17] ∧ S3 C 64 H p L es H3 ∧ es.length = n)
    ⟨[], _, _, _, _, _, _, _, _, _, _, _, _, _, _, rfl, S0, rfl⟩ ?_ ?_⟩
  · rintro n σ H3 hn ⟨es, v4, v5, v6, v7, v8, v9, v10, v11, v12, v13, v14, v15, v16, v17, rfl, S, hes⟩
    have hn5 : n < 5 := hn
    obtain ⟨ownd0, std0, hpd0, o0d0, t0d0, t1d0⟩ := S.hp
    refine ⟨_, rfl, p, ownd0, std0, _, rfl, hpd0, o0d0, t0d0, t1d0, by decide, by decide, fun d0 owd0 swd0 d0a d0b e0d0 e1d0 e2d0 => ?_⟩
    have S4 := S.took hpd0 e0d0 e1d0 e2d0
    generalize upd _ p (.lst [.int owd0, .int swd0]) = H4 at S4 ⊢
    refine ⟨_, _, rfl, rfl, ?_⟩
    have z0 : Sz 5 (1 + d0) := Sz.of (by omega) (by omega)
    obtain ⟨m, hm, m0, m1⟩ := sizes (i := 0 + (n : Nat))
    refine ⟨_, rfl, _, rfl, _, _, rfl, rfl, ⟨by decide, by decide, by decide⟩, by show 3 ≤ sizeLine; decide, fun q nq => ?_⟩
    have Sq := S4.grow (sN (o := .lst [V.int 9, V.int 1000, V.int (10 ^ (16 : Int).toNat)]) nq)
    obtain ⟨ownd1, std1, hpd1, o0d1, t0d1, t1d1⟩ := Sq.hp
    refine ⟨_, rfl, _, _, rfl, rfl, by show (0 : Int) < 3; decide, q, _, _, _, rfl, rfl, SqL.of upd_same, hm, p, ownd1, std1, _, rfl, hpd1, o0d1, t0d1, t1d1, m0, by omega, fun d1 owd1 swd1 d1a d1b e0d1 e1d1 e2d1 => ?_⟩
    have S5 := Sq.took hpd1 e0d1 e1d1 e2d1
    generalize upd _ p (.lst [.int owd1, .int swd1]) = H5 at S5 ⊢
    have z1 : Sz 54 (d1 - 4) := Sz.of (by omega) (by omega)
    obtain ⟨ownd2, std2, hpd2, o0d2, t0d2, t1d2⟩ := S5.hp
    refine ⟨_, _, rfl, rfl, _, _, rfl, rfl, z0.cmul z1, _, rfl, _, rfl, p, ownd2, std2, _, rfl, hpd2, o0d2, t0d2, t1d2, by decide, by decide, fun d2 owd2 swd2 d2a d2b e0d2 e1d2 e2d2 => ?_⟩
    have S6 := S5.took hpd2 e0d2 e1d2 e2d2
    generalize upd _ p (.lst [.int owd2, .int swd2]) = H6 at S6 ⊢
    have z2 : Sz 6 (d2 - 20) := Sz.of (by omega) (by omega)
    refine ⟨_, _, rfl, rfl, _, _, rfl, rfl, z0.cmul z2, _, _, rfl, ?_⟩
    dsimp only
    have zt := z0.mul z1
    have zb := z0.mul z2
    revert zt zb
    generalize (1 + d0) * (d1 - 4) = top
    generalize (1 + d0) * (d2 - 20) = bot
    intro zt zb
    clear S S4 Sq S5 nq
    have S := S6
    clear S6
    have zb' : Sz 4000 bot := zb.mono (by decide)
    refine seq_if (fun H' => S3 C 64 H p L es H') (fun H7 S => ?_) fun rest => ?_
    rotate_left
    · refine ⟨_, rfl, _, rfl, top, bot, rfl, zb', fun z H7 s7 => ?_, fun z t H7 s7 nt ht => ?_⟩
      · exact ⟨_, rfl, rfl, _, rfl, iteT2 (dec0 z) ⟨_, _, .str _, .str _, by decide +kernel, by decide +kernel, _, rfl, iteF2 (nes (by decide +kernel)) (rest H7 (S.grow s7))⟩⟩
      · exact ⟨_, rfl, rfl, _, rfl, iteF2 (dec1 z) ⟨_, rfl, _, rfl, _, _, rfl, z, zb', fun t2 n2 => ne_pair (sN n2 _ _ ht) upd_same ⟨_, rfl, iteF (rest _ (S.grow (s7.trans (sN n2))))⟩⟩⟩
    refine ⟨_, rfl, _, rfl, rfl, .inr ⟨_, rfl, _, _, rfl, rfl, ?_⟩⟩
    have zc : bot + (if decide (V.int bot = V.int 0) = true then (1 : Int) else 0) ≠ 0 := by
      by_cases z : bot = 0
      · rw [dec0 z, z]
        decide
      · rw [dec1 z]
        simpa using z
    have zd : Sz 12 (bot + (if decide (V.int bot = V.int 0) = true then (1 : Int) else 0)) := Sz.add (n := 11) zb (by split <;> exact Sz.of (by decide) (by decide))
    dsimp only
    revert zc zd
    generalize bot + (if decide (V.int bot = V.int 0) = true then (1 : Int) else 0) = bt
    intro zc zd
    have zd' : Sz 4000 bt := zd.mono (by decide)
    refine ⟨_, rfl, .inl ⟨rfl, _, SqL.of S.hL⟩, _, rfl, _, rfl, fun x dx nx nd nz => ⟨x, dx, _, _, rfl, upd_same, zd', fun z => absurd z zc, fun _ => ⟨rfl, ?_⟩⟩⟩
    have s8 := newR (o1 := .ins C dx []) (o2 := .ins C dx (flds (low top bt).1 (low top bt).2)) nx nd
    have hx : RatAt C (upd (upd (upd H7 dx (.own x)) x (.ins C dx [])) x (.ins C dx (flds (low top bt).1 (low top bt).2))) x (low top bt).1 (low top bt).2 := ⟨dx, upd_same⟩
    generalize upd (upd (upd H7 dx (.own x)) x (.ins C dx [])) x _ = H8 at s8 hx ⊢
    refine ⟨_, rfl, _, rfl, _, _, rfl, zc, zd', fun t n9 => ?_⟩
    have s9 := sN (o := .tup [.int (low top bt).1, .int (low top bt).2]) n9
    have ht := upd_same (H := H8) (a := t) (o := .tup [.int (low top bt).1, .int (low top bt).2])
    generalize upd H8 t _ = H9 at s9 ht ⊢
    refine ⟨by show 2 ≤ sizeLine; decide, fun e ne => ?_⟩
    have sg := s8.trans (s9.trans (sN (o := .tup [.ref x, .ref t]) ne))
    refine ⟨L, _, _, rfl, rfl, (S.grow sg).hL, ?_, ?_⟩
    · rw [List.length_map, hes, sizeLine_eq]
      omega
    have l1 := (zt.mono (m := 64) (by decide)).low1 zc
    have l2 := (zd.mono (m := 64) (by decide)).low2 (p := top) zc
    exact ⟨es ++ [(e, (low top bt).1, (low top bt).2)], _, _, _, _, _, _, _, _, _, _, _, _, _, _, rfl, (S.grow sg).app ⟨⟨x, t, upd_same, hx.same (s9.trans (sN ne)), sN ne _ _ ht⟩, low_low zc, l1.mono (by decide), l2.mono (by decide)⟩ l1 l2, by rw [List.length_append, hes]; rfl⟩
  rintro σ H3 ⟨es, v4, v5, v6, v7, v8, v9, v10, v11, v12, v13, v14, v15, v16, v17, rfl, S, hes⟩
  -- the great ones
  obtain ⟨owng0, stg0, hpg0, o0g0, t0g0, t1g0⟩ := S.hp
  refine ⟨_, _, rfl, rfl, ⟨by decide, by decide, by decide⟩, _, rfl, _, _, rfl, rfl, ⟨by decide, by decide, by decide⟩, p, owng0, stg0, _, rfl, hpg0, o0g0, t0g0, t1g0, by decide, by decide, fun g0 owg0 swg0 g0a g0b e0g0 e1g0 e2g0 => ?_⟩
  have S4 := S.took hpg0 e0g0 e1g0 e2g0
  generalize upd _ p (.lst [.int owg0, .int swg0]) = H4 at S4 ⊢
  obtain ⟨owng1, stg1, hpg1, o0g1, t0g1, t1g1⟩ := S4.hp
  refine ⟨_, _, rfl, rfl, _, rfl, p, owng1, stg1, _, rfl, hpg1, o0g1, t0g1, t1g1, by decide, by decide, fun g1 owg1 swg1 g1a g1b e0g1 e1g1 e2g1 => ?_⟩
  have S5 := S4.took hpg1 e0g1 e1g1 e2g1
  generalize upd _ p (.lst [.int owg1, .int swg1]) = H5 at S5 ⊢
  obtain ⟨owng2, stg2, hpg2, o0g2, t0g2, t1g2⟩ := S5.hp
  refine ⟨_, _, rfl, rfl, _, rfl, p, owng2, stg2, _, rfl, hpg2, o0g2, t0g2, t1g2, by decide, by decide, fun g2 owg2 swg2 g2a g2b e0g2 e1g2 e2g2 => ?_⟩
  have S6 := S5.took hpg2 e0g2 e1g2 e2g2
  generalize upd _ p (.lst [.int owg2, .int swg2]) = H6 at S6 ⊢
  refine ⟨_, _, rfl, rfl, _, _, _, rfl, ?_⟩
  have ga : (0 : Int) ≤ 10 ^ (15 : Int).toNat + g0 ∧ 10 ^ (15 : Int).toNat + g0 < 4000000000000000 := by
    have e : (10 : Int) ^ (15 : Int).toNat = 1000000000000000 := by decide
    rw [e] at g0b ⊢
    omega
  have gb : 0 < 1 + g1 ∧ 1 + g1 < 16 := by omega
  have gc : 0 < 1 + g2 ∧ 1 + g2 < 32 := by omega
  dsimp only
  revert ga gb gc
  generalize 10 ^ (15 : Int).toNat + g0 = great
  generalize 1 + g1 = bt
  generalize 1 + g2 = pa
  intro ga gb gc
  clear S S4 S5
  refine ⟨_, rfl, _, rfl, _, _, rfl, rfl, by show 2 ≤ sizeLine; decide, fun q nq => ⟨q, rfl, ⟨_, SqT.of upd_same⟩, for_tup (xs := [.int great, .int (great + 1)]) (fun m σ H7 => ∃ es, ∃ v4 v6 v9 v10 v11 v12 v13 v14 v15 v16 v17 : Option V, σ = [some (.ref a), some (.int (0 + (i : Nat))), some (.ref p), some (.ref L), v4, some (.int pa), v6, some (.int bt), some (.int great), v9, v10, v11, v12, v13, v14, v15, v16, v17] ∧ S3 C 64 H p L es H7 ∧ 5 ≤ es.length ∧ es.length ≤ 5 + m ∧ H7 q = some (.tup [.int great, .int (great + 1)]))
    ⟨es, _, _, _, _, _, _, _, _, _, _, _, rfl, S6.grow (sN nq), by omega, by omega, upd_same⟩ (fun m σ H7 _ ⟨_, _, _, _, _, _, _, _, _, _, _, _, _, _, _, _, z⟩ => SqT.of z) ?_ ?_⟩⟩
  · rintro m x0 σ H7 hx0 ⟨es, v4, v6, v9, v10, v11, v12, v13, v14, v15, v16, v17, rfl, S, l1, l2, hq⟩
    obtain ⟨tp, rfl, tp0, tp1, hm2⟩ : ∃ tp : Int, x0 = .int tp ∧ 0 ≤ tp ∧ tp < 4000000000000001 ∧ m < 2 := by
      match m, hx0 with
      | 0, h => cases h; exact ⟨_, rfl, by omega, by omega, by omega⟩
      | 1, h => cases h; exact ⟨_, rfl, by omega, by omega, by omega⟩
    have zt : Sz 53 tp := Sz.of (by omega) (by omega)
    have zb : Sz 4 bt := Sz.of (by omega) (by omega)
    have zp : Sz 5 pa := Sz.of (by omega) (by omega)
    have bn : bt ≠ 0 := by omega
    have pn : pa ≠ 0 := by omega
    have bpn : bt * pa ≠ 0 := Int.mul_ne_zero bn pn
    refine ⟨_, rfl, .inl ⟨rfl, _, SqL.of S.hL⟩, _, rfl, _, rfl, _, _, rfl, rfl, zt.cmul zp, _, rfl, _, rfl, _, _, rfl, rfl, zb.cmul zp, fun x dx nx nd nz => ⟨x, dx, _, _, rfl, upd_same, (zb.mul zp).mono (by decide), fun z => absurd z bpn, fun _ => ⟨rfl, ?_⟩⟩⟩
    rw [low_scale bn pn]
    have s8 := newR (o1 := .ins C dx []) (o2 := .ins C dx (flds (low tp bt).1 (low tp bt).2)) nx nd
    have hx : RatAt C (upd (upd (upd H7 dx (.own x)) x (.ins C dx [])) x (.ins C dx (flds (low tp bt).1 (low tp bt).2))) x (low tp bt).1 (low tp bt).2 := ⟨dx, upd_same⟩
    generalize upd (upd (upd H7 dx (.own x)) x (.ins C dx [])) x _ = H8 at s8 hx ⊢
    refine ⟨_, rfl, _, rfl, _, _, rfl, bn, zb.mono (by decide), fun t n9 => ?_⟩
    have s9 := sN (o := .tup [.int (low tp bt).1, .int (low tp bt).2]) n9
    have ht := upd_same (H := H8) (a := t) (o := .tup [.int (low tp bt).1, .int (low tp bt).2])
    generalize upd H8 t _ = H9 at s9 ht ⊢
    refine ⟨by show 2 ≤ sizeLine; decide, fun e ne => ?_⟩
    have sg := s8.trans (s9.trans (sN (o := .tup [.ref x, .ref t]) ne))
    refine ⟨L, _, _, rfl, rfl, (S.grow sg).hL, ?_, ?_⟩
    · rw [List.length_map, sizeLine_eq]
      omega
    have y1 := (zt.mono (m := 64) (by decide)).low1 bn
    have y2 := (zb.mono (m := 64) (by decide)).low2 (p := tp) bn
    exact ⟨es ++ [(e, (low tp bt).1, (low tp bt).2)], _, _, _, _, _, _, _, _, _, _, _, rfl, (S.grow sg).app ⟨⟨x, t, upd_same, hx.same (s9.trans (sN ne)), sN ne _ _ ht⟩, low_low bn, y1.mono (by decide), y2.mono (by decide)⟩ y1 y2, by rw [List.length_append]; omega, by rw [List.length_append]; show es.length + 1 ≤ _; omega, by
      rw [upd_ne (fun z => by subst z; have := sg _ _ hq; rw [(S.grow sg).hL] at this; cases this)]
      exact sg _ _ hq⟩
  rintro σ H7 ⟨es, v4, v6, v9, v10, v11, v12, v13, v14, v15, v16, v17, rfl, S, l1, l2, _⟩
  -- the product
  have l2 : es.length ≤ 7 := l2
  obtain ⟨⟨e0, ea, eb⟩, ⟨e1, ec, ed⟩, es, rfl⟩ : ∃ x y zs, es = x :: y :: zs := by
    match es, l1 with
    | [], h => exact absurd h (by show ¬ 5 ≤ 0; decide)
    | [x], h => exact absurd h (by show ¬ 5 ≤ 1; decide)
    | x :: y :: zs, _ => exact ⟨x, y, zs, rfl⟩
  refine ⟨_, rfl, L, _, 0, .ref e0, rfl, rfl, SqL.of S.hL, at0, _, rfl, L, _, 1, .ref e1, rfl, rfl, SqL.of S.hL, at1, by show 2 ≤ sizeLine; decide, fun q nq => ?_⟩
  have S8 := S.grow (sN (o := .tup [.ref e0, .ref e1]) nq)
  have hq8 := upd_same (H := H7) (a := q) (o := .tup [.ref e0, .ref e1])
  show gTup _ _ _ (.ref q) _ (upd H7 q (.tup [.ref e0, .ref e1])) _
  generalize upd H7 q (.tup [.ref e0, .ref e1]) = H8 at S8 hq8 ⊢
  obtain ⟨⟨⟨r0, t0, f1, f2, f3⟩, lo0, _, _⟩, za, zb⟩ := S8.en _ List.mem_cons_self
  obtain ⟨⟨⟨r1, t1, g1, g2, g3⟩, lo1, _, _⟩, zc, zd⟩ := S8.en _ (List.mem_cons_of_mem _ List.mem_cons_self)
  refine ⟨q, _, rfl, .of hq8, rfl, _, _, rfl, ⟨e0, _, rfl, .of f1, rfl, _, _, rfl, _, _, rfl, ⟨t0, _, rfl, .of f3, rfl, _, _, rfl, _, _, rfl, rfl, rfl, _, _, rfl, ⟨e1, _, rfl, .of g1, rfl, _, _, rfl, _, _, rfl, ⟨t1, _, rfl, .of g3, rfl, _, _, rfl, _, _, rfl, rfl, rfl, rfl, ?_⟩⟩⟩⟩⟩
  dsimp only at za zb zc zd lo0 lo1 f2 g2
  obtain ⟨d0, f2⟩ := f2
  obtain ⟨d1, g2⟩ := g2
  have bn : eb ≠ 0 := by have := lo0.1; omega
  have bdn : eb * ed ≠ 0 := Int.mul_ne_zero bn (by have := lo1.1; omega)
  have bbn : eb * ed * eb ≠ 0 := Int.mul_ne_zero bdn bn
  have m4 : ∀ {z : Int}, Sz 64 z → Sz 400 z := fun z => z.mono (by decide)
  have zu : Sz 129 (ea * ed + ec * eb) := Sz.add (n := 128) (za.mul zd) (zc.mul zb)
  have zv : Sz 128 (eb * ed) := zb.mul zd
  refine ⟨_, rfl, .inl ⟨rfl, _, SqL.of S8.hL⟩, _, rfl, _, rfl, r0, r1, d0, d1, _, _, rfl, rfl, f2, g2, r0, r1, ea, eb, ec, ed, rfl, ⟨d0, f2⟩, ⟨d1, g2⟩, m4 za, m4 zb, m4 zc, m4 zd, lo0.1, lo1.1, fun x H9 s9 nx hx => ?_⟩
  refine ⟨_, rfl, r0, d0, _, rfl, s9 _ _ f2, r0, ea, eb, rfl, ⟨d0, s9 _ _ f2⟩, lo0, m4 za, m4 zb, fun y H10 s10 ny hy => ?_⟩
  obtain ⟨dx, hx⟩ := hx.same s10
  obtain ⟨dy, hy⟩ := hy
  refine ⟨x, y, dx, dy, _, _, rfl, rfl, hx, hy, x, y, _, _, -ea, eb, rfl, ⟨dx, hx⟩, ⟨dy, hy⟩, (zu.low1 bdn).mono (by decide), (zv.low2 bdn).mono (by decide), m4 za.neg, m4 zb, (low_low bdn).1, lo0.1, fun z H11 s11 nz hz => ?_⟩
  have ez : fMul (fAdd ea eb ec ed).1 (fAdd ea eb ec ed).2 (-ea) eb = low ((ea * ed + ec * eb) * (-ea)) (eb * ed * eb) := low_mul bdn bn
  rw [ez] at hz
  have e0' : (0 : Int) - ea = -ea := by omega
  refine ⟨_, rfl, _, rfl, _, _, rfl, rfl, za.cmul zd, _, rfl, _, rfl, _, _, rfl, rfl, zc.cmul zb, _, _, rfl, rfl, _, rfl, _, _, rfl, rfl, _, _, rfl, rfl, (by rw [e0']; exact zu.cmul za.neg), _, rfl, _, rfl, _, _, rfl, rfl, zb.cmul zd, _, rfl, _, _, rfl, rfl, zv.cmul zb, _, _, rfl, bbn, (zv.mul zb).mono (by decide), fun t nt => ?_⟩
  rw [e0']
  have y1 : Sz 200 (low ((ea * ed + ec * eb) * (-ea)) (eb * ed * eb)).1 := ((zu.mul za.neg).mono (by decide)).low1 bbn
  have y2 : Sz 200 (low ((ea * ed + ec * eb) * (-ea)) (eb * ed * eb)).2 := ((zv.mul zb).mono (by decide)).low2 bbn
  have yl : Low (low ((ea * ed + ec * eb) * (-ea)) (eb * ed * eb)).1 (low ((ea * ed + ec * eb) * (-ea)) (eb * ed * eb)).2 := low_low bbn
  revert hz y1 y2 yl
  generalize (low ((ea * ed + ec * eb) * (-ea)) (eb * ed * eb)).1 = pa1
  generalize (low ((ea * ed + ec * eb) * (-ea)) (eb * ed * eb)).2 = pa2
  intro hz y1 y2 yl
  refine ⟨by show 2 ≤ sizeLine; decide, fun e ne => ?_⟩
  have s12 := (s9.trans s10).trans (s11.trans ((sN (o := .tup [.int pa1, .int pa2]) nt).trans (sN (o := .tup [.ref z, .ref t]) ne)))
  have S9 := (S8.grow s12).mono (m := 200) (by decide)
  refine ⟨L, _, _, rfl, rfl, S9.hL, ?_, ?_⟩
  · rw [List.length_map, sizeLine_eq]
    omega
  have S10 := S9.app (e := e) (a := pa1) (b := pa2) ⟨⟨z, t, upd_same, hz.same ((sN nt).trans (sN ne)), sN ne _ _ upd_same⟩, yl, y1, y2⟩ y1 y2
  have l10 : (((e0, ea, eb) :: (e1, ec, ed) :: es) ++ [(e, pa1, pa2)]).length ≤ 8 := by
    rw [List.length_append]
    show ((e0, ea, eb) :: (e1, ec, ed) :: es).length + 1 ≤ 8
    omega
  revert S10 l10
  generalize ((e0, ea, eb) :: (e1, ec, ed) :: es) ++ [(e, pa1, pa2)] = es8
  generalize upd _ L (.lst ((((e0, ea, eb) :: (e1, ec, ed) :: es).map fun e => V.ref e.1) ++ [.ref e])) = H12
  intro S l8
  -- the last loop
  refine ⟨_, rfl, L, rfl, ⟨_, SqL.of S.hL⟩, for_list (xs := es8.map fun e => V.ref e.1) (fun m σ H13 => ∃ v4 v5 v6 v7 v8 v9 v10 v11 v12 v13 v14 v15 v16 v17 : Option V, σ = [some (.ref a), some (.int (0 + (i : Nat))), some (.ref p), some (.ref L), v4, v5, v6, v7, v8, v9, v10, v11, v12, v13, v14, v15, v16, v17] ∧ S3 C 200 H p L es8 H13)
    ⟨_, _, _, _, _, _, _, _, _, _, _, _, _, _, rfl, S⟩ (fun m σ H13 _ ⟨_, _, _, _, _, _, _, _, _, _, _, _, _, _, _, S⟩ => SqL.of S.hL) ?_ ?_⟩
  rotate_left
  · rintro σ H13 ⟨v4, v5, v6, v7, v8, v9, v10, v11, v12, v13, v14, v15, v16, v17, rfl, S⟩
    exact ⟨_, _, _, _, _, _, _, _, _, _, _, _, _, _, _, _, _, rfl, S.sm⟩
  clear S
  rintro m x0 σ H13 hx0 ⟨v4, v5, v6, v7, v8, v9, v10, v11, v12, v13, v14, v15, v16, v17, rfl, S⟩
  obtain ⟨⟨e, ta, tb⟩, he, rfl⟩ : ∃ e ∈ es8, x0 = V.ref e.1 := by
    obtain ⟨e, h1, h2⟩ := List.mem_map.mp (List.mem_of_getElem? hx0)
    exact ⟨e, h1, h2.symm⟩
  obtain ⟨⟨⟨r, t, f1, f2, f3⟩, lo, za, zb⟩, _, _⟩ := S.en _ he
  dsimp only at f1 f2 f3 lo za zb
  obtain ⟨dr, f2⟩ := f2
  have m4 : ∀ {z : Int}, Sz 200 z → Sz 400 z := fun z => z.mono (by decide)
  have tl := txt_len (m4 za) (m4 zb)
  have l1 : (3000 : Nat) ≤ sizeLine := by decide
  have la : ((toString ta : String) : Str).length ≤ 1000 := by
    have := tl
    unfold txt at this
    split at this
    · exact this
    · rw [strLen_append, strLen_append] at this
      omega
  have lb : (("/" : Str) ++ ((toString tb : String) : Str)).length ≤ 1000 := by
    have h0 := txt_len (m4 zb) (m4 zb)
    have h3 : ("/" : Str).length = 1 := by decide +kernel
    unfold txt at h0
    split at h0
    · rename_i e1
      rw [e1]
      decide +kernel
    · rw [strLen_append, strLen_append] at h0
      rw [strLen_append]
      omega
  refine ⟨_, rfl, e, _, rfl, .of f1, rfl, _, _, rfl, _, _, rfl, ⟨t, _, rfl, .of f3, rfl, _, _, rfl, _, _, rfl, rfl, rfl, ?_⟩⟩
  -- the text
  refine ⟨_, rfl, _, rfl, za.text, _, rfl, _, rfl, zb.text, _, _, rfl, rfl, ?_, _, rfl, rfl, .inr ⟨_, rfl, _, _, rfl, rfl, mul01 _ lb _, _, _, rfl, rfl, ?_, ?_⟩⟩
  · rw [strLen_append] at lb
    omega
  · have := tl
    rw [← text_eq, strLen_append] at this
    omega
  rw [text_eq]
  obtain ⟨ownwd, stwd, hpwd, o0wd, t0wd, t1wd⟩ := S.hp
  refine ⟨_, rfl, p, ownwd, stwd, _, rfl, hpwd, o0wd, t0wd, t1wd, by decide, by decide, fun wd owwd swwd wda wdb e0wd e1wd e2wd => ?_⟩
  have k14 := kp_upd (ys := [.int owwd, .int swwd]) hpwd
  have S2 := S.took hpwd e0wd e1wd e2wd
  generalize upd _ p (.lst [.int owwd, .int swwd]) = H14 at S2 k14 ⊢
  refine ⟨_, _, rfl, rfl, ?_⟩
  have wd2 : 0 ≤ 1 + wd ∧ 1 + wd ≤ 100 := by omega
  dsimp only
  revert wd2
  generalize 1 + wd = wid
  intro wd2
  have h14 := k14 _ _ (fun _ z => by cases z) f2
  refine ⟨_, rfl, r, dr, _, rfl, h14, r, ta, tb, rfl, ⟨dr, h14⟩, m4 za, m4 zb, tl, _, rfl, _, rfl, rfl, _, rfl, iteF2 (by simp) ?_⟩
  refine ⟨_, rfl, r, dr, _, rfl, h14, flds_no _ _ (by decide +kernel) (by decide +kernel), _, rfl, r, ta, tb, _, rfl, ⟨dr, h14⟩, m4 za, m4 zb, tl, wd2.1, wd2.2, ?_⟩
  refine ⟨_, rfl, _, rfl, _, rfl, Nat.le_trans tl (by decide), _, _, rfl, rfl, _, _, rfl, _, _, rfl, rfl, ?_, _, rfl, _, _, rfl, rfl, ?_, rfl, _, rfl, iteF2 ?_ ?_⟩
  · exact mul_ok (by split <;> omega) (by split <;> omega)
  · rw [mul_if]
    have := @mul_len (wid - ((txt ta tb).length : Int))
    omega
  · rw [mul_if, decide_eq_true rfl]
    rfl
  -- the negative
  refine ⟨_, rfl, r, dr, _, rfl, h14, r, ta, tb, rfl, ⟨dr, h14⟩, lo, m4 za, m4 zb, fun y H15 s15 ny hy => ⟨y, _, _, rfl, hy, fun t2 nt2 => ⟨_, rfl, _, _, rfl, rfl, _, rfl, by show 2 ≤ sizeLine; decide, fun u nu => ?_⟩⟩⟩
  dsimp only
  rw [show (0 : Int) - ta = -ta by omega]
  have sA := s15.trans ((sN (o := .tup [.int (-ta), .int tb]) nt2).trans (sN (o := .tup [.int (-ta), .int tb]) nu))
  refine ⟨.tuple [.int (-ta), .int tb], .tuple [.int (-ta), .int tb], .tup (.of (sN nu _ _ upd_same)) (.cons (.int _) (.cons (.int _) .nil)), .tup (.of upd_same) (.cons (.int _) (.cons (.int _) .nil)), rfl, rfl, _, rfl, iteF2 nep ?_⟩
  have S3' := S2.grow sA
  have h16 := sA _ _ h14
  generalize upd (upd H15 t2 (.tup [.int (-ta), .int tb])) u (.tup [.int (-ta), .int tb]) = H16 at sA S3' h16 ⊢
  refine ⟨_, rfl, r, dr, _, rfl, h16, r, ta, tb, rfl, ⟨dr, h16⟩, _, rfl, _, rfl, rfl, rfl, _, rfl, iteF2 (bool_eq ta) ?_⟩
  -- of one number
  refine ⟨_, rfl, fun x dx nx nd nz => ⟨x, dx, _, _, rfl, upd_same, Sz.of (by decide) (by decide), fun z => absurd z (by decide), fun _ => ⟨rfl, ?_⟩⟩⟩
  rw [low_one]
  have s8 := newR (o1 := .ins C dx []) (o2 := .ins C dx (flds ta 1)) nx nd
  have hx : RatAt C (upd (upd (upd H16 dx (.own x)) x (.ins C dx [])) x (.ins C dx (flds ta 1))) x ta 1 := ⟨dx, upd_same⟩
  generalize upd (upd (upd H16 dx (.own x)) x (.ins C dx [])) x _ = H17 at s8 hx ⊢
  refine ⟨x, _, _, rfl, hx, fun t2 nt2 => ⟨_, rfl, by show 2 ≤ sizeLine; decide, fun u nu => ?_⟩⟩
  have sB := s8.trans ((sN (o := .tup [.int ta, .int 1]) nt2).trans (sN (o := .tup [.int ta, .int 1]) nu))
  refine ⟨.tuple [.int ta, .int 1], .tuple [.int ta, .int 1], .tup (.of (sN nu _ _ upd_same)) (.cons (.int _) (.cons (.int _) .nil)), .tup (.of upd_same) (.cons (.int _) (.cons (.int _) .nil)), rfl, rfl, _, rfl, iteF2 nep ?_⟩
  have S4 := S3'.grow sB
  generalize upd (upd H17 t2 (.tup [.int ta, .int 1])) u (.tup [.int ta, .int 1]) = H18 at S4 ⊢
  -- the pairs
  refine ⟨_, rfl, L, rfl, ⟨_, SqL.of S4.hL⟩, fun D nD => lc_list (xs := es8.map fun e => V.ref e.1) (fun j H19 => S3 C 200 H p L es8 H19 ∧ H19 D = some (.lst [])) ⟨S4.grow (sN nD), upd_same⟩ (fun j H19 _ z => SqL.of z.1.hL) ?_ ?_⟩
  · rintro j x1 H19 hx1 ⟨S5, hD⟩
    obtain ⟨⟨e', tc, td⟩, he', rfl⟩ : ∃ e ∈ es8, x1 = V.ref e.1 := by
      obtain ⟨e, h1, h2⟩ := List.mem_map.mp (List.mem_of_getElem? hx1)
      exact ⟨e, h1, h2.symm⟩
    exact ⟨rfl, _, rfl, _, rfl, e, e', ta, tb, tc, td, rfl, (S5.en _ he).1, (S5.en _ he').1, fun H20 s20 => ⟨_, rfl, iteF2 rfl ⟨S5.grow s20, s20 _ _ hD⟩⟩⟩
  rintro H19 ⟨S5, hD⟩
  refine ⟨by show 0 ≤ sizeLine; decide, fun u nu => ⟨.list [], .list [], .lst (.of (sN nu _ _ hD)) .nil, .lst (.of upd_same) .nil, rfl, rfl, _, rfl, iteF2 rfl ?_⟩⟩
  exact ⟨_, _, _, _, _, _, _, _, _, _, _, _, _, _, rfl, S5.grow (sN nu)⟩
end
end Law

set_option Elab.async false
set_option linter.all false
set_option maxRecDepth 100000
set_option maxHeartbeats 4000000
namespace Law
open PySem L2
abbrev c_NoRatio : Stmt := inClass (top 2) 0
theorem allB {l : List Bool} (h : l.all id = true) {b : Bool} (i : Nat) (e : l[i]? = some b) : b = true := List.all_eq_true.mp h b (List.mem_of_getElem? e)
theorem allD {l : List Bool} (h : l.all id = true) {p : Prop} [Decidable p] (i : Nat) (e : l[i]? = some (decide p)) : p := of_decide_eq_true (allB h i e)
abbrev ratL (K : PySem.W.Frag) (C fI Cn : Addr) : List Bool := [
  PySem.W.plainGet K C Str.empty, PySem.W.hasDictIn K C, PySem.W.plainOver K C, decide (PySem.W.findIn K (.ref C) "__setattr__" = some (some (.builtin "object.__setattr__"))),
  decide (PySem.W.findIn K (.ref C) "top" = some none), decide (PySem.W.findIn K (.ref C) "bottom" = some none), PySem.W.selfFirst K C,
  decide (PySem.W.findIn K (.ref C) "__class__" = some (some (.builtin "object.__class__"))), decide (PySem.W.specialIn K (.builtin "object.__class__") "__get__" = some (some (.builtin "getset_descriptor.__get__"))),
  decide (PySem.W.takesIn K (.builtin "object.__class__") = some true), decide (PySem.W.mroIn K C (.type "object") = some true),
  decide (PySem.W.kitOne K (.ref C) (.ref C) = some true), decide (PySem.W.kitOne K (.type "int") (.ref C) = some false), decide (PySem.W.kitOne K (.type "str") (.ref C) = some false), decide (PySem.W.kitOne K (.type "tuple") (.ref C) = some false),
  PySem.W.notFirst K C (.type "int"), PySem.W.notFirst K C (.type "str"), PySem.W.notFirst K C (.type "tuple"), decide (PySem.W.exmOne K (.ref Cn) (.ref Cn) = some true),
  PySem.W.makesIn K C, decide (PySem.W.findIn K (.ref C) "__init__" = some (some (.ref fI))), PySem.W.isFn K (.ref fI), PySem.W.keepIn K (.ref C)]
def ratB (K : PySem.W.Frag) (C fI Cn : Addr) : Bool := (ratL K C fI Cn).all id
theorem all_mk {w : World} {K : PySem.W.Frag} {h : Heap} {mg : Str → Option Value} {fa C fI Td Cn Ix ccx cax f_feed f_take f_same f_shared f_lowest f_parts f_made f_pair f_law f_req f_radd f_rsub f_rmul f_rneg f_rbool f_rbelow f_rstr f_rpad : Addr} {oc_feed kV_feed dc_feed pm_feed cd_feed ct_feed oc_take kV_take dc_take pm_take cd_take ct_take oc_same kV_same dc_same pm_same cd_same ct_same oc_shared kV_shared dc_shared pm_shared cd_shared ct_shared oc_lowest kV_lowest dc_lowest pm_lowest cd_lowest ct_lowest oc_parts kV_parts dc_parts pm_parts cd_parts ct_parts oc_made kV_made dc_made pm_made cd_made ct_made oc_pair kV_pair dc_pair pm_pair cd_pair ct_pair oc_law kV_law dc_law pm_law cd_law ct_law oc_rinit kV_rinit dc_rinit pm_rinit cd_rinit ct_rinit tdc oc_req kV_req dc_req pm_req cd_req ct_req oc_radd kV_radd dc_radd pm_radd cd_radd ct_radd oc_rsub kV_rsub dc_rsub pm_rsub cd_rsub ct_rsub oc_rmul kV_rmul dc_rmul pm_rmul cd_rmul ct_rmul oc_rneg kV_rneg dc_rneg pm_rneg cd_rneg ct_rneg oc_rbool kV_rbool dc_rbool pm_rbool cd_rbool ct_rbool oc_rbelow kV_rbelow dc_rbelow pm_rbelow cd_rbelow ct_rbelow oc_rstr kV_rstr dc_rstr pm_rstr cd_rstr ct_rstr oc_rpad kV_rpad dc_rpad pm_rpad cd_rpad ct_rpad xoc xdc xpm xct xcl xccl : Value} {od_feed an_feed od_take an_take od_same an_same od_shared an_shared od_lowest an_lowest od_parts an_parts od_made an_made od_pair an_pair od_law an_law od_rinit an_rinit tdd od_req an_req od_radd an_radd od_rsub an_rsub od_rmul an_rmul od_rneg an_rneg od_rbool an_rbool od_rbelow an_rbelow od_rstr an_rstr od_rpad an_rpad xod xan xcld xcdd : Option Addr} {sl_feed sl_take sl_same sl_shared sl_lowest sl_parts sl_made sl_pair sl_law sl_rinit tds sl_req sl_radd sl_rsub sl_rmul sl_rneg sl_rbool sl_rbelow sl_rstr sl_rpad xosl xcsl xccs : Array (Option Value)} {xvs its : Array Value} {tdn : Nat}
    (X : K.In h) (G : h.Ns mainGlobals mg) (hfa : mg "law" = some (.ref fa))
    (a_feed : PySem.W.nsIn K mainGlobals "_law_feed" = some (some (.ref f_feed)))
    (l_feed : K.lookup f_feed = some ⟨oc_feed, od_feed, .func (PySem.W.fnOf "_law_feed" "_law_feed" (defArgs s_feed) (defBody s_feed) (defScope s_feed) .none kV_feed dc_feed pm_feed an_feed cd_feed ct_feed), sl_feed⟩)
    (c_feed : PySem.W.codeIn K cd_feed "_law_feed" = true)
    (k_feed : PySem.W.keepIn K (.ref f_feed) = true)
    (a_take : PySem.W.nsIn K mainGlobals "_law_take" = some (some (.ref f_take)))
    (l_take : K.lookup f_take = some ⟨oc_take, od_take, .func (PySem.W.fnOf "_law_take" "_law_take" (defArgs s_take) (defBody s_take) (defScope s_take) .none kV_take dc_take pm_take an_take cd_take ct_take), sl_take⟩)
    (c_take : PySem.W.codeIn K cd_take "_law_take" = true)
    (k_take : PySem.W.keepIn K (.ref f_take) = true)
    (a_same : PySem.W.nsIn K mainGlobals "_law_same" = some (some (.ref f_same)))
    (l_same : K.lookup f_same = some ⟨oc_same, od_same, .func (PySem.W.fnOf "_law_same" "_law_same" (defArgs s_same) (defBody s_same) (defScope s_same) .none kV_same dc_same pm_same an_same cd_same ct_same), sl_same⟩)
    (c_same : PySem.W.codeIn K cd_same "_law_same" = true)
    (k_same : PySem.W.keepIn K (.ref f_same) = true)
    (a_shared : PySem.W.nsIn K mainGlobals "shared" = some (some (.ref f_shared)))
    (l_shared : K.lookup f_shared = some ⟨oc_shared, od_shared, .func (PySem.W.fnOf "shared" "shared" (defArgs s_shared) (defBody s_shared) (defScope s_shared) .none kV_shared dc_shared pm_shared an_shared cd_shared ct_shared), sl_shared⟩)
    (c_shared : PySem.W.codeIn K cd_shared "shared" = true)
    (k_shared : PySem.W.keepIn K (.ref f_shared) = true)
    (a_lowest : PySem.W.nsIn K mainGlobals "_law_lowest" = some (some (.ref f_lowest)))
    (l_lowest : K.lookup f_lowest = some ⟨oc_lowest, od_lowest, .func (PySem.W.fnOf "_law_lowest" "_law_lowest" (defArgs s_lowest) (defBody s_lowest) (defScope s_lowest) .none kV_lowest dc_lowest pm_lowest an_lowest cd_lowest ct_lowest), sl_lowest⟩)
    (c_lowest : PySem.W.codeIn K cd_lowest "_law_lowest" = true)
    (k_lowest : PySem.W.keepIn K (.ref f_lowest) = true)
    (a_parts : PySem.W.nsIn K mainGlobals "_law_parts" = some (some (.ref f_parts)))
    (l_parts : K.lookup f_parts = some ⟨oc_parts, od_parts, .func (PySem.W.fnOf "_law_parts" "_law_parts" (defArgs s_parts) (defBody s_parts) (defScope s_parts) .none kV_parts dc_parts pm_parts an_parts cd_parts ct_parts), sl_parts⟩)
    (c_parts : PySem.W.codeIn K cd_parts "_law_parts" = true)
    (k_parts : PySem.W.keepIn K (.ref f_parts) = true)
    (a_made : PySem.W.nsIn K mainGlobals "_law_made" = some (some (.ref f_made)))
    (l_made : K.lookup f_made = some ⟨oc_made, od_made, .func (PySem.W.fnOf "_law_made" "_law_made" (defArgs s_made) (defBody s_made) (defScope s_made) .none kV_made dc_made pm_made an_made cd_made ct_made), sl_made⟩)
    (c_made : PySem.W.codeIn K cd_made "_law_made" = true)
    (k_made : PySem.W.keepIn K (.ref f_made) = true)
    (a_pair : PySem.W.nsIn K mainGlobals "_law_pair_right" = some (some (.ref f_pair)))
    (l_pair : K.lookup f_pair = some ⟨oc_pair, od_pair, .func (PySem.W.fnOf "_law_pair_right" "_law_pair_right" (defArgs s_pair) (defBody s_pair) (defScope s_pair) .none kV_pair dc_pair pm_pair an_pair cd_pair ct_pair), sl_pair⟩)
    (c_pair : PySem.W.codeIn K cd_pair "_law_pair_right" = true)
    (k_pair : PySem.W.keepIn K (.ref f_pair) = true)
    (a_law : PySem.W.nsIn K mainGlobals "law" = some (some (.ref f_law)))
    (l_law : K.lookup f_law = some ⟨oc_law, od_law, .func (PySem.W.fnOf "law" "law" (defArgs s_law) (defBody s_law) (defScope s_law) .none kV_law dc_law pm_law an_law cd_law ct_law), sl_law⟩)
    (c_law : PySem.W.codeIn K cd_law "law" = true)
    (k_law : PySem.W.keepIn K (.ref f_law) = true)
    (aC : PySem.W.nsIn K mainGlobals "Ratio" = some (some (.ref C)))
    (iC : PySem.W.findIn K (.ref C) "__init__" = some (some (.ref fI)))
    (l_rinit : K.lookup fI = some ⟨oc_rinit, od_rinit, .func (PySem.W.fnOf "__init__" "Ratio.__init__" (defArgs s_rinit) (defBody s_rinit) (defScope s_rinit) (.ref Td) kV_rinit dc_rinit pm_rinit an_rinit cd_rinit ct_rinit), sl_rinit⟩)
    (c_rinit : PySem.W.codeIn K cd_rinit "Ratio.__init__" = true)
    (k_rinit : PySem.W.keepIn K (.ref fI) = true)
    (lT : K.lookup Td = some ⟨tdc, tdd, .seq its tdn, tds⟩)
    (iT : ∃ tk, its = [Value.int 1 tk].toArray)
    (a_req : PySem.W.findIn K (.ref C) "__eq__" = some (some (.ref f_req)))
    (i_req : PySem.W.isFn K (.ref f_req) = true)
    (l_req : K.lookup f_req = some ⟨oc_req, od_req, .func (PySem.W.fnOf "__eq__" "Ratio.__eq__" (defArgs s_req) (defBody s_req) (defScope s_req) .none kV_req dc_req pm_req an_req cd_req ct_req), sl_req⟩)
    (c_req : PySem.W.codeIn K cd_req "Ratio.__eq__" = true)
    (k_req : PySem.W.keepIn K (.ref f_req) = true)
    (a_radd : PySem.W.findIn K (.ref C) "__add__" = some (some (.ref f_radd)))
    (i_radd : PySem.W.isFn K (.ref f_radd) = true)
    (l_radd : K.lookup f_radd = some ⟨oc_radd, od_radd, .func (PySem.W.fnOf "__add__" "Ratio.__add__" (defArgs s_radd) (defBody s_radd) (defScope s_radd) .none kV_radd dc_radd pm_radd an_radd cd_radd ct_radd), sl_radd⟩)
    (c_radd : PySem.W.codeIn K cd_radd "Ratio.__add__" = true)
    (k_radd : PySem.W.keepIn K (.ref f_radd) = true)
    (a_rsub : PySem.W.findIn K (.ref C) "__sub__" = some (some (.ref f_rsub)))
    (i_rsub : PySem.W.isFn K (.ref f_rsub) = true)
    (l_rsub : K.lookup f_rsub = some ⟨oc_rsub, od_rsub, .func (PySem.W.fnOf "__sub__" "Ratio.__sub__" (defArgs s_rsub) (defBody s_rsub) (defScope s_rsub) .none kV_rsub dc_rsub pm_rsub an_rsub cd_rsub ct_rsub), sl_rsub⟩)
    (c_rsub : PySem.W.codeIn K cd_rsub "Ratio.__sub__" = true)
    (k_rsub : PySem.W.keepIn K (.ref f_rsub) = true)
    (a_rmul : PySem.W.findIn K (.ref C) "__mul__" = some (some (.ref f_rmul)))
    (i_rmul : PySem.W.isFn K (.ref f_rmul) = true)
    (l_rmul : K.lookup f_rmul = some ⟨oc_rmul, od_rmul, .func (PySem.W.fnOf "__mul__" "Ratio.__mul__" (defArgs s_rmul) (defBody s_rmul) (defScope s_rmul) .none kV_rmul dc_rmul pm_rmul an_rmul cd_rmul ct_rmul), sl_rmul⟩)
    (c_rmul : PySem.W.codeIn K cd_rmul "Ratio.__mul__" = true)
    (k_rmul : PySem.W.keepIn K (.ref f_rmul) = true)
    (a_rneg : PySem.W.findIn K (.ref C) "__neg__" = some (some (.ref f_rneg)))
    (i_rneg : PySem.W.isFn K (.ref f_rneg) = true)
    (l_rneg : K.lookup f_rneg = some ⟨oc_rneg, od_rneg, .func (PySem.W.fnOf "__neg__" "Ratio.__neg__" (defArgs s_rneg) (defBody s_rneg) (defScope s_rneg) .none kV_rneg dc_rneg pm_rneg an_rneg cd_rneg ct_rneg), sl_rneg⟩)
    (c_rneg : PySem.W.codeIn K cd_rneg "Ratio.__neg__" = true)
    (k_rneg : PySem.W.keepIn K (.ref f_rneg) = true)
    (a_rbool : PySem.W.findIn K (.ref C) "__bool__" = some (some (.ref f_rbool)))
    (i_rbool : PySem.W.isFn K (.ref f_rbool) = true)
    (l_rbool : K.lookup f_rbool = some ⟨oc_rbool, od_rbool, .func (PySem.W.fnOf "__bool__" "Ratio.__bool__" (defArgs s_rbool) (defBody s_rbool) (defScope s_rbool) .none kV_rbool dc_rbool pm_rbool an_rbool cd_rbool ct_rbool), sl_rbool⟩)
    (c_rbool : PySem.W.codeIn K cd_rbool "Ratio.__bool__" = true)
    (k_rbool : PySem.W.keepIn K (.ref f_rbool) = true)
    (a_rbelow : PySem.W.findIn K (.ref C) "below" = some (some (.ref f_rbelow)))
    (i_rbelow : PySem.W.isFn K (.ref f_rbelow) = true)
    (l_rbelow : K.lookup f_rbelow = some ⟨oc_rbelow, od_rbelow, .func (PySem.W.fnOf "below" "Ratio.below" (defArgs s_rbelow) (defBody s_rbelow) (defScope s_rbelow) .none kV_rbelow dc_rbelow pm_rbelow an_rbelow cd_rbelow ct_rbelow), sl_rbelow⟩)
    (c_rbelow : PySem.W.codeIn K cd_rbelow "Ratio.below" = true)
    (k_rbelow : PySem.W.keepIn K (.ref f_rbelow) = true)
    (a_rstr : PySem.W.findIn K (.ref C) "__str__" = some (some (.ref f_rstr)))
    (i_rstr : PySem.W.isFn K (.ref f_rstr) = true)
    (l_rstr : K.lookup f_rstr = some ⟨oc_rstr, od_rstr, .func (PySem.W.fnOf "__str__" "Ratio.__str__" (defArgs s_rstr) (defBody s_rstr) (defScope s_rstr) .none kV_rstr dc_rstr pm_rstr an_rstr cd_rstr ct_rstr), sl_rstr⟩)
    (c_rstr : PySem.W.codeIn K cd_rstr "Ratio.__str__" = true)
    (k_rstr : PySem.W.keepIn K (.ref f_rstr) = true)
    (a_rpad : PySem.W.findIn K (.ref C) "padded" = some (some (.ref f_rpad)))
    (i_rpad : PySem.W.isFn K (.ref f_rpad) = true)
    (l_rpad : K.lookup f_rpad = some ⟨oc_rpad, od_rpad, .func (PySem.W.fnOf "padded" "Ratio.padded" (defArgs s_rpad) (defBody s_rpad) (defScope s_rpad) .none kV_rpad dc_rpad pm_rpad an_rpad cd_rpad ct_rpad), sl_rpad⟩)
    (c_rpad : PySem.W.codeIn K cd_rpad "Ratio.padded" = true)
    (k_rpad : PySem.W.keepIn K (.ref f_rpad) = true)
    (xa : PySem.W.nsIn K mainGlobals "NoRatio" = some (some (.ref Cn)))
    (xi : PySem.W.findIn K (.ref Cn) "__init__" = some (some (.ref Ix)))
    (xl : K.lookup Ix = some ⟨xoc, xod, .func (PySem.W.ksFn "__init__" "NoRatio.__init__" (defArgs c_NoRatio) (defBody c_NoRatio) (defScope c_NoRatio) .none .none xdc xpm xan (.ref cax) xct ccx), xosl⟩)
    (xc : K.lookup ccx = some ⟨xcl, xcld, .cell (some (.ref Cn)), xcsl⟩)
    (xk : K.lookup cax = some ⟨xccl, xcdd, .fields xvs, xccs⟩)
    (xd : PySem.W.codeIn K (.ref cax) "NoRatio.__init__" = true)
    (xb : ownB K Cn Ix "ValueError.__new__" "ValueError" "ValueError.__init__" PySem.XS.veT [] = true)
    (xv : ∃ tf, xvs[2]? = some (.str "/claim/cut.py" tf))
    (z_abs : PySem.W.nsIn K mainGlobals "abs" = some none)
    (z_isinstance : PySem.W.nsIn K mainGlobals "isinstance" = some none)
    (z_bool : PySem.W.nsIn K mainGlobals "bool" = some none)
    (z_str : PySem.W.nsIn K mainGlobals "str" = some none)
    (z_len : PySem.W.nsIn K mainGlobals "len" = some none)
    (z_int : PySem.W.nsIn K mainGlobals "int" = some none)
    (z_max : PySem.W.nsIn K mainGlobals "max" = some none)
    (z_min : PySem.W.nsIn K mainGlobals "min" = some none)
    (z_range : PySem.W.nsIn K mainGlobals "range" = some none)
    (z_repr : PySem.W.nsIn K mainGlobals "repr" = some none)
    (rt : ratB K C fI Cn = true) :
    ∃ fd : FuncData, (∀ (s : Shared) (v : Value), BindsTo s fd ⟨[v], []⟩ [("_law_script", v)]) ∧ ∀ base : Heap, K.In base → base.Ns mainGlobals mg → FnG PySem.Challenge.pw_hadnot_k03_ratios w K mg base CX0 6 fa fd ["_law_script"] (spLaw K) := by
  have e := hfa.symm.trans (PySem.W.mg_of X G a_law)
  cases e
  have nn : ∀ x, PySem.W.nsIn K mainGlobals x = some none → mg x = none := fun x z => PySem.W.mg_none_of X G z
  obtain ⟨tf, xv⟩ := xv
  obtain ⟨tk, rfl⟩ := iT
  have X0 : Xc PySem.Challenge.pw_hadnot_k03_ratios w K mg "NoRatio" Cn [] := L2.xc0 (w := w) (st := c_NoRatio) PySem.XS.bas_VE X G xa xl xc xk xd xb xv (by decide +kernel) (by decide +kernel) rfl rfl rfl rfl
  have T : Txt3 PySem.Challenge.pw_hadnot_k03_ratios w K mg C Cn := ⟨⟨allB rt 0 rfl, allB rt 1 rfl, allB rt 2 rfl, allD rt 3 rfl⟩, allD (p := PySem.W.findIn K (.ref C) "top" = some none) rt 4 rfl, allD (p := PySem.W.findIn K (.ref C) "bottom" = some none) rt 5 rfl, allB rt 6 rfl, X0, PySem.W.mg_of X G aC, nn _ z_abs, nn _ z_isinstance, nn _ z_bool, nn _ z_str, nn _ z_len, nn _ z_int, nn _ z_max, nn _ z_min, nn _ z_range, allD rt 7 rfl, allD rt 8 rfl, allD rt 9 rfl, allD rt 10 rfl, allD rt 11 rfl, allD rt 12 rfl, allD rt 13 rfl, allD rt 14 rfl, allB rt 15 rfl, allB rt 16 rfl, allB rt 17 rfl, allD rt 18 rfl⟩
  have M : Mk K C fI := ⟨allB rt 19 rfl, iC, allB rt 21 rfl, allB rt 22 rfl⟩
  have B : Blt mg := ⟨nn _ z_len, nn _ z_abs, nn _ z_repr⟩
  have FD : FunD K "__init__" "Ratio.__init__" (defArgs s_rinit) (defBody s_rinit) (defScope s_rinit) [V.int 1] [] fI _ := ⟨⟨_, _, _, _, _, _, _, _, _, _, rfl, l_rinit, c_rinit, .inr ⟨by simp, _, _, [Value.int 1 tk], _, rfl, lT, rfl, .cons ⟨_, rfl⟩ .nil⟩, .inl rfl⟩, k_rinit⟩
  obtain ⟨ds2, vd2, bd2⟩ := FD.binds1 (ps := ["self", "top", "bottom"]) 3 1 (by simp) rfl (fun _ _ _ _ _ _ _ us its h1 h2 => match us, its, h1, h2 with | [_, _, _], [_], _, _ => ⟨_, rfl, rfl⟩)
  obtain ⟨ds1, vd1, bd1⟩ := FD.binds1 (ps := ["self", "top", "bottom"]) 2 0 (by simp) rfl (fun _ _ _ _ _ _ _ us its h1 h2 => match us, its, h1, h2 with | [_, _], [_], _, _ => ⟨_, rfl, rfl⟩)
  refine ⟨_, fun s v => .of_eq rfl, fun base _ _ => ok_law (fun_mk (st := s_law) l_law c_law k_law) T ?_⟩
  have Os' : Os PySem.Challenge.pw_hadnot_k03_ratios w K mg base := ⟨ok_shared (def_mk X G a_shared l_shared c_shared k_shared) T⟩
  have hI := ok_rinit (base := base) FD T Os'
  have R2 : HasC PySem.Challenge.pw_hadnot_k03_ratios w K mg base (L2.CX _ w) 2 C "Ratio" ["self", "top", "bottom"] [] (spRInit C Cn) := ⟨_, _, _, hI, M, PySem.W.mg_of X G aC, bd2, vd2⟩
  have R1 : HasC PySem.Challenge.pw_hadnot_k03_ratios w K mg base (L2.CX _ w) 2 C "Ratio" ["self", "top", "bottom"] [.int 1] (spRInit C Cn) := ⟨_, _, _, hI, M, PySem.W.mg_of X G aC, bd1, vd1⟩
  have Or' : Or PySem.Challenge.pw_hadnot_k03_ratios w K mg base C Cn := ⟨R2, R1⟩
  have hP := ok_parts (base := base) (def_mk X G a_parts l_parts c_parts k_parts) T
  have hStr := ok_rstr (base := base) (defM_mk a_rstr i_rstr l_rstr c_rstr k_rstr) T
  have On' : On PySem.Challenge.pw_hadnot_k03_ratios w K mg base C Cn := ⟨ok_feed (def_mk X G a_feed l_feed c_feed k_feed) B, ok_take (def_mk X G a_take l_take c_take k_take), ok_same (def_mk X G a_same l_same c_same k_same) B, ok_lowest (def_mk X G a_lowest l_lowest c_lowest k_lowest) T, hP, ok_made (def_mk X G a_made l_made c_made k_made) T Or' hP, R2, R1, ok_radd (defM_mk a_radd i_radd l_radd c_radd k_radd) T Or', ok_rsub (defM_mk a_rsub i_rsub l_rsub c_rsub k_rsub) T Or', ok_rmul (defM_mk a_rmul i_rmul l_rmul c_rmul k_rmul) T Or', ok_rneg (defM_mk a_rneg i_rneg l_rneg c_rneg k_rneg) T Or', ok_rbool (defM_mk a_rbool i_rbool l_rbool c_rbool k_rbool) T, ok_rbelow (defM_mk a_rbelow i_rbelow l_rbelow c_rbelow k_rbelow) T, ok_req (defM_mk a_req i_req l_req c_req k_req) T, hStr, ok_rpad (defM_mk a_rpad i_rpad l_rpad c_rpad k_rpad) T hStr⟩
  exact ⟨On', ok_pair (def_mk X G a_pair l_pair c_pair k_pair) T On'⟩
end Law

set_option Elab.async false
set_option linter.all false
open PySem PySem.W PyProof.Rows in
set_option maxRecDepth 100000 in
set_option maxHeartbeats 0 in
theorem PySem.Challenge.cw_hadnot_k03_ratios_holds : PySem.Challenge.rw_hadnot_k03_ratios.Holds := by
  w_on; o_law; k_head; (case hw => w_witness2)
  k_fill
  refine L2.walk_ofG (l := PySem.Challenge.rw_hadnot_k03_ratios) (n := 63) (k := 6) (x := "_law_script") (sp := Law.spLaw) rfl (by decide) rfl ⟨rfl, by decide, by decide⟩ (fun w h Y => PySem.W.kIn_of Y) ?F (fun K H a ns hl _ hS => ⟨a, ns, rfl, hS, hl, fun _ => rfl⟩)
  case F =>
    intro w mg fa h KX G hmg
    refine' Law.all_mk KX G hmg ?a_feed ?l_feed ?c_feed ?k_feed ?a_take ?l_take ?c_take ?k_take ?a_same ?l_same ?c_same ?k_same ?a_shared ?l_shared ?c_shared ?k_shared ?a_lowest ?l_lowest ?c_lowest ?k_lowest ?a_parts ?l_parts ?c_parts ?k_parts ?a_made ?l_made ?c_made ?k_made ?a_pair ?l_pair ?c_pair ?k_pair ?a_law ?l_law ?c_law ?k_law ?aC ?iC ?l_rinit ?c_rinit ?k_rinit ?lT ?iT ?a_req ?i_req ?l_req ?c_req ?k_req ?a_radd ?i_radd ?l_radd ?c_radd ?k_radd ?a_rsub ?i_rsub ?l_rsub ?c_rsub ?k_rsub ?a_rmul ?i_rmul ?l_rmul ?c_rmul ?k_rmul ?a_rneg ?i_rneg ?l_rneg ?c_rneg ?k_rneg ?a_rbool ?i_rbool ?l_rbool ?c_rbool ?k_rbool ?a_rbelow ?i_rbelow ?l_rbelow ?c_rbelow ?k_rbelow ?a_rstr ?i_rstr ?l_rstr ?c_rstr ?k_rstr ?a_rpad ?i_rpad ?l_rpad ?c_rpad ?k_rpad ?xa ?xi ?xl ?xc ?xk ?xd ?xb ?xv ?z_abs ?z_isinstance ?z_bool ?z_str ?z_len ?z_int ?z_max ?z_min ?z_range ?z_repr ?rt
    (case a_feed => k_is)
    (case l_feed => k_is)
    (case c_feed => k_is)
    (case k_feed => k_is)
    (case a_take => k_is)
    (case l_take => k_is)
    (case c_take => k_is)
    (case k_take => k_is)
    (case a_same => k_is)
    (case l_same => k_is)
    (case c_same => k_is)
    (case k_same => k_is)
    (case a_shared => k_is)
    (case l_shared => k_is)
    (case c_shared => k_is)
    (case k_shared => k_is)
    (case a_lowest => k_is)
    (case l_lowest => k_is)
    (case c_lowest => k_is)
    (case k_lowest => k_is)
    (case a_parts => k_is)
    (case l_parts => k_is)
    (case c_parts => k_is)
    (case k_parts => k_is)
    (case a_made => k_is)
    (case l_made => k_is)
    (case c_made => k_is)
    (case k_made => k_is)
    (case a_pair => k_is)
    (case l_pair => k_is)
    (case c_pair => k_is)
    (case k_pair => k_is)
    (case a_law => k_is)
    (case l_law => k_is)
    (case c_law => k_is)
    (case k_law => k_is)
    (case aC => k_is)
    (case iC => k_is)
    (case l_rinit => k_is)
    (case c_rinit => k_is)
    (case k_rinit => k_is)
    (case lT => k_is)
    (case iT => exact ⟨_, rfl⟩)
    (case a_req => k_is)
    (case i_req => k_is)
    (case l_req => k_is)
    (case c_req => k_is)
    (case k_req => k_is)
    (case a_radd => k_is)
    (case i_radd => k_is)
    (case l_radd => k_is)
    (case c_radd => k_is)
    (case k_radd => k_is)
    (case a_rsub => k_is)
    (case i_rsub => k_is)
    (case l_rsub => k_is)
    (case c_rsub => k_is)
    (case k_rsub => k_is)
    (case a_rmul => k_is)
    (case i_rmul => k_is)
    (case l_rmul => k_is)
    (case c_rmul => k_is)
    (case k_rmul => k_is)
    (case a_rneg => k_is)
    (case i_rneg => k_is)
    (case l_rneg => k_is)
    (case c_rneg => k_is)
    (case k_rneg => k_is)
    (case a_rbool => k_is)
    (case i_rbool => k_is)
    (case l_rbool => k_is)
    (case c_rbool => k_is)
    (case k_rbool => k_is)
    (case a_rbelow => k_is)
    (case i_rbelow => k_is)
    (case l_rbelow => k_is)
    (case c_rbelow => k_is)
    (case k_rbelow => k_is)
    (case a_rstr => k_is)
    (case i_rstr => k_is)
    (case l_rstr => k_is)
    (case c_rstr => k_is)
    (case k_rstr => k_is)
    (case a_rpad => k_is)
    (case i_rpad => k_is)
    (case l_rpad => k_is)
    (case c_rpad => k_is)
    (case k_rpad => k_is)
    (case xa => k_is)
    (case xi => k_is)
    (case xl => k_is)
    (case xc => k_is)
    (case xk => k_is)
    (case xd => k_is)
    (case xb => kernel_rfl)
    (case xv => exact ⟨_, rfl⟩)
    (case z_abs => k_is)
    (case z_isinstance => k_is)
    (case z_bool => k_is)
    (case z_str => k_is)
    (case z_len => k_is)
    (case z_int => k_is)
    (case z_max => k_is)
    (case z_min => k_is)
    (case z_range => k_is)
    (case z_repr => k_is)
    (case rt => kernel_rfl)
#print axioms PySem.Challenge.cw_hadnot_k03_ratios_holds
