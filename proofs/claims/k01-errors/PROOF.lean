import PyProof.Rows.All
import Wide.All
import OpenK.AllK
import Wide.FinOn
import KE.KExcSuper
import HandS.ForMost
import HandS.ForExc
import HandS.ExcInit
import KE.KExcIs
import HandS.ExcValue
import HandS.ExcField
import HandS.IsInst
import HandS.EndBits
import PyProof.ReprRoads
import PyProof.ReprLen
import HandS.Wide
import HandS.Deep
import HandS.Walk
import PySem.Challenge.RW_hadnot_k01_errors
set_option Elab.async false
set_option linter.all false
set_option maxRecDepth 100000
set_option maxHeartbeats 2000000
/-! XS: own exception classes over ValueError or KeyError (also through a class of the program) whose __init__ says super().__init__(text) and stores its parameters. -/
namespace PySem
namespace XS
open PySem.W PySem.Calls PyProof.Rows PySem.HandSPX
abbrev veT : List Value := [.type "ValueError", .type "Exception", .type "BaseException", .type "object"]
abbrev keT : List Value := [.type "KeyError", .type "LookupError", .type "Exception", .type "BaseException", .type "object"]
/-- the built-in below: who makes (Bn), who sets up (B), the classes above -/
structure Bas (Bn newId iN : String) (bmN : List Value) (B initId : String) (bmB : List Value) : Prop where
  nb : ExcBaseFacts Bn newId iN bmN
  hB : bmB.contains (.type Bn) = true
  hA : bmB.contains (.type "AttributeError") = false
  hN : bmB.contains (.type "NameError") = false
  sf : StoreFacts B bmB "object.__setattr__" "object"
  kx : KxsFacts B initId
  ik : builtinKind initId = some .slot
  ir : Manifest.signature? initId = some ⟨.positional, "*", B, .self, [⟨"args", .varPos, false⟩]⟩
  ns : (B != "*") = true
  ipl : plainId initId = true
  ien : entryFor table initId = some Builtin.«BaseException.__init__»
theorem bas_VE : Bas "ValueError" "ValueError.__new__" "ValueError.__init__" veT "ValueError" "ValueError.__init__" veT where
  nb := F.excBase_ValueError
  hB := by decide +kernel
  hA := by decide +kernel
  hN := by decide +kernel
  sf := F.store_ValueError
  kx := kxs_ValueError
  ik := by kernel_rfl
  ir := by kernel_rfl
  ns := by decide +kernel
  ipl := by decide +kernel
  ien := F.excBase_ValueError.initEntry
theorem sto_KE : StoreFacts "KeyError" keT "object.__setattr__" "object" where
  mro := by kernel_rfl
  slot := .of (owner := "object") (n := "__setattr__") (by rw [typeLookup_type, builtinLookup_eq_fast]; kernel_rfl) (by decide +kernel) (by decide +kernel) (by decide +kernel)
    (by first | exact .inl (by decide +kernel) | exact .inr (by decide +kernel)) (by rw [isSubtype_type]; kernel_rfl)
  entry := F.store_ValueError.entry
  kind := by decide +kernel
  split := by decide +kernel
  hasOwner := by decide +kernel
  args := fun a b c => by unfold argsOk; kernel_rfl
  passes := fun self => by kernel_rfl
theorem bas_KE : Bas "LookupError" "LookupError.__new__" "LookupError.__init__" [.type "LookupError", .type "Exception", .type "BaseException", .type "object"] "KeyError" "KeyError.__init__" keT where
  nb := F.excBase_LookupError
  hB := by decide +kernel
  hA := by decide +kernel
  hN := by decide +kernel
  sf := sto_KE
  kx := ⟨by show builtinType _ = _; rw [builtinType_eq_fast]; kernel_rfl, by first | kernel_rfl | rfl⟩
  ik := by kernel_rfl
  ir := by kernel_rfl
  ns := by decide +kernel
  ipl := by decide +kernel
  ien := PyProof.Rows.excClass_KeyError.initEntry

/-! ### making -/
section
variable {prog : Program} {w : World} {M : Model} {A : Around} {E : Value → Shared → Prop} {R : Result → Shared → Prop} {h : Heap} {g : Array GenState} {d : Drawn} {t : Nat} {os : OsState}
variable {nm q : Str} {C N : Addr} {bs bm bmN bmB : List Value} {hdct : Bool} {sn : List Str} {sub : List Value} {ab : Bool} {col : Option Bool} {dd : Option Addr} {k0 k1 k2 k3 k5 : Option Value} {Bn newId iN B initId : String}
theorem chk_new (T : Bas Bn newId iN bmN B initId bmB) (hT : ∀ X : String, bm.contains (.type X) = bmB.contains (.type X)) {rest : List Value} {Q : Unit → Shared → Prop}
    (hC : h.get? C = some (excClassObj nm q C N bs bm hdct sn sub ab col dd k0 k1 k2 k3 k5 newId)) (hq : Q () ⟨h, g, d, t, os⟩) :
    wpAny M A (checkBuiltinCall newId ⟨.ref C :: rest, []⟩) Q E ⟨h, g, d, t, os⟩ := by
  have c0 : (Value.ref C :: bm).contains (.type Bn) = true := by rw [List.contains_cons, hT, T.hB, Bool.or_true]
  have st := T.nb.noStar
  simp only [checkBuiltinCall, T.nb.newKind, T.nb.newSplit, T.nb.newRow]
  repeat (first
    | refine wpAny_loadPart_at hC ?_
    | (refine wpAny_isSubtype_exc hC ?_; rw [c0])
    | refine wpAny_staticBase_exc hC ?_
    | refine wpAny_madeBy_exc hC ?_
    | simp only [bne_self_eq_false, Bool.false_eq_true, if_false]
    | wp_step)
  exact hq
theorem run_new (T : Bas Bn newId iN bmN B initId bmB) (hT : ∀ X : String, bm.contains (.type X) = bmB.contains (.type X)) {rest : List Value}
    (hC : h.get? C = some (excClassObj nm q C N bs bm hdct sn sub ab col dd k0 k1 k2 k3 k5 newId)) (hz : rest.length ≤ sizeLine)
    (hq : R (.ok (.ret (.ref (h.objs.size + 1)))) ⟨(h.push (kdv_tup rest)).push (excO C h.objs.size), g, d, t, os⟩) :
    codeAny (model prog w) A (.builtin newId ⟨.ref C :: rest, []⟩) R ⟨h, g, d, t, os⟩ := by
  have en := T.nb.ends
  have cB : (Value.ref C :: bm).contains (.type Bn) = true := by rw [List.contains_cons, hT, T.hB, Bool.or_true]
  have cA : (Value.ref C :: bm).contains (.type "AttributeError") = false := by rw [List.contains_cons, hT, T.hA]; rfl
  have cN : (Value.ref C :: bm).contains (.type "NameError") = false := by rw [List.contains_cons, hT, T.hN]; rfl
  refine codeAny_builtinAt T.nb.entry ?_
  unfold Builtin.«BaseException.__new__»
  refine wpAt_bind ?_
  show wpAt _ _ _ (stack >>= _) _ _ _
  refine wpAt_bind (wpAt_stack fun p below => wpAt_of_wpAny ?_)
  wp_walk
  refine wpAt_of_wpAny ?_
  rw [T.nb.owner]
  repeat (first
    | with_reducible refine wpAny_madeHere_exc T.nb.canon hC ?_
    | with_reducible refine wpAny_loadPart_at hC ?_
    | (with_reducible refine wpAny_isSubtype_exc hC ?_; first | rw [cB] | rw [cA] | rw [cN])
    | wp_step)
  show R _ _
  rw [Heap.size_push]
  exact hq
theorem run_type (T : Bas Bn newId iN bmN B initId bmB) (hT : ∀ X : String, bm.contains (.type X) = bmB.contains (.type X)) {rest : List Value} {fI : Addr} {Q : Fin → Shared → Prop}
    (hC : h.get? C = some (excClassObj nm q C N bs bm hdct sn sub ab col dd k0 k1 k2 k3 k5 newId))
    (hi : W.Looks (model prog w) h (typeLookup (.ref C) "__init__") (some (.ref fI))) (hb : ∀ self, W.Looks (model prog w) h (bindSpecial (.ref fI) self) (.ref fI, [self])) (hz : rest.length ≤ sizeLine)
    (hq : codeAny (model prog w) A (.call (.ref fI) ⟨.ref (h.objs.size + 1) :: rest, []⟩)
      (fun r s' => match r with | .ok (.ret v) => v = .none ∧ Q (.done (.ret (.ref (h.objs.size + 1)))) s' | .ok _ => False | .error e => E e s')
      ⟨(h.push (kdv_tup rest)).push (excO C h.objs.size), g, d, t, os⟩) :
    wpAny (model prog w) A (Builtin.«type.__call__» ⟨.ref C :: rest, []⟩) Q E ⟨h, g, d, t, os⟩ := by
  have cC : (Value.ref C :: bm).contains (.ref C) = true := by simp
  have up : ∀ b o, h.get? b = some o → ((h.push (kdv_tup rest)).push (excO C h.objs.size)).get? b = some o := fun b o e => Heap.get?_push_of_some _ (Heap.get?_push_of_some _ e)
  have hC' := up _ _ hC
  have he : ((h.push (kdv_tup rest)).push (excO C h.objs.size)).get? (h.objs.size + 1) = some (excO C h.objs.size) := by heap_get
  have i1 := hi.keeps up
  have b1 := (hb (.ref (h.objs.size + 1))).keeps up
  repeat (first | with_reducible refine wpAny_loadPart_at hC ?_ | with_reducible refine wpAny_madeBy_exc hC ?_ | wp_step)
  refine codeAny_call_builtin_code (Code.quiet_builtin _ T.nb.quiet) (chk_new T hT hC (run_new T hT hC hz ?_))
  show wpAny _ _ _ _ _ _
  unfold isInstance
  repeat (first | with_reducible refine wpAny_loadPart_at he ?_ | (with_reducible refine wpAny_isSubtype_exc hC' ?_; rw [cC]) | wp_step)
  show wpAny _ _ (typeLookup (.ref C) _) _ _ _
  refine i1.at (wpAny_holding (wpAny_bind (b1.at ?_)))
  refine wpAny_bind (wpAny_call (codeAny_mono hq fun r s' z => ?_))
  rcases r with e | (v | _ | _ | _) <;> first | exact z | exact z.elim | skip
  obtain ⟨rfl, z⟩ := z
  first
    | exact wpAny_pure (wpAny_pure z)
    | (wp_walk; exact z)
theorem run_call (T : Bas Bn newId iN bmN B initId bmB) (hT : ∀ X : String, bm.contains (.type X) = bmB.contains (.type X)) {rest : List Value} {fI : Addr}
    (hC : h.get? C = some (excClassObj nm q C N bs bm hdct sn sub ab col dd k0 k1 k2 k3 k5 newId))
    (hi : W.Looks (model prog w) h (typeLookup (.ref C) "__init__") (some (.ref fI))) (hb : ∀ self, W.Looks (model prog w) h (bindSpecial (.ref fI) self) (.ref fI, [self])) (hz : rest.length ≤ sizeLine)
    (hq : codeAny (model prog w) (A.under (.builtin "type.__call__" ⟨.ref C :: rest, []⟩)) (.call (.ref fI) ⟨.ref (h.objs.size + 1) :: rest, []⟩) (W.InitBack (h.objs.size + 1) R)
      ⟨(h.push (kdv_tup rest)).push (excO C h.objs.size), g, d, t, os⟩) :
    codeAny (model prog w) A (.call (.ref C) ⟨rest, []⟩) R ⟨h, g, d, t, os⟩ := by
  have f1 := tc_lookup
  have f2 := tc_bind (.ref C)
  have ty : (⟨h, g, d, t, os⟩ : Shared).TypeIs (.ref C) "type" := ⟨_, hC, rfl⟩
  refine codeAny_of_tree ?_
  show wpAny _ _ (callAny (.ref C) _) _ _ _
  repeat (any_goals (first | assumption | with_reducible refine wpAny_loadPart_at hC ?_ | wp_step))
  refine ⟨rfl, codeAny_call_builtin_at (Code.quiet_builtin _ (by decide +kernel)) entry_typeCall (wpAny_check_type_call_sub hC (run_type T hT hC hi hb hz (codeAny_mono hq fun r s' z => ?_)))⟩
  rcases r with e | (v | _ | _ | _) <;> exact z

/-! ### super().__init__(text): the wrapper called -/
theorem chk_bound (T : Bas Bn newId iN bmN B initId bmB) {e : Addr} {oe : Obj} {rest : List Value} {Q : Unit → Shared → Prop}
    (hC : h.get? C = some (excClassObj nm q C N bs bm hdct sn sub ab col dd k0 k1 k2 k3 k5 newId)) (he : h.get? e = some oe) (hcls : oe.cls = .ref C) (hq : Q () ⟨h, g, d, t, os⟩) :
    wpAny M A (checkBoundCall initId ⟨.ref e :: rest, []⟩) Q E ⟨h, g, d, t, os⟩ := by
  have st := T.ns
  simp only [checkBoundCall, T.ik, T.ir]
  repeat (first | (with_reducible refine wpAny_loadPart_at he ?_; rw [hcls]) | with_reducible refine wpAny_loadPart_at hC ?_ | wp_step)
  refine wpAny_onRaise ?_
  have c : ∀ (a b : String) (n : Nat), Bind.check ⟨.positional, "*", B, .self, [⟨"args", .varPos, false⟩]⟩ a b n (List.map (fun x => x.fst) ({ pos := Value.ref e :: rest } : Args).kw) = pure () := fun a b n => check_star_args _ _ _ _ _ _
  rw [c]
  exact wpAny_pure hq
theorem call_mw (T : Bas Bn newId iN bmN B initId bmB) {u e t0 : Addr} {rest : List Value} {Q : Value → Shared → Prop}
    (hC : h.get? C = some (excClassObj nm q C N bs bm hdct sn sub ab col dd k0 k1 k2 k3 k5 newId)) (he : h.get? e = some (excO C t0)) (hu : h.get? u = some (kxs_mw initId e)) (hz : rest.length ≤ sizeLine)
    (hq : ∀ h', (∀ b o, b ≠ e → h.get? b = some o → h'.get? b = some o) → h'.get? e = some (excO C h.objs.size) → Q .none ⟨h', g, d, t, os⟩) :
    wpAny (model prog w) A (call (.ref u) rest) Q E ⟨h, g, d, t, os⟩ := by
  refine wpAny_call (codeAny_of_tree ?_)
  show wpAny _ A.in1 (callAny (.ref u) ⟨rest, []⟩) _ _ _
  simp only [callAny]
  refine wpAny_bind (wpAny_load hu ?_)
  simp only [kxs_mw, show (Value.type "method-wrapper" == Value.type "method" || Value.type "method-wrapper" == Value.type "builtin_function_or_method" || Value.type "method-wrapper" == Value.type "method-wrapper") = true by decide, if_true]
  refine KFB.if_so (by decide) ?_
  refine wpAny_bind (chk_bound T hC he rfl (wpAny_bind (wpAny_pure (wpAny_pure ⟨plainId_quiet T.ipl _, codeAny_builtin T.ien ?_⟩))))
  exact exc_init_tree (cls := .ref C) (t0 := t0) (dv := none) (c2 := .none) (c3 := .none) (b4 := .bool false) he hz fun h' k e' _ => hq h' k e'
end
end XS
end PySem

set_option Elab.async false
set_option linter.all false
set_option maxRecDepth 100000
set_option maxHeartbeats 2000000
namespace PySem
namespace XS
open PySem.W PySem.Calls PyProof.Rows PySem.HandSPX
/-- what the written part says of the class at C and of its __init__ at fI -/
structure Own (prog : Program) (K : Frag) (C fI cc cda : Addr) (newId B initId : String) (bmB : List Value) (qual : Str) (params : Arguments) (body : List Stmt) (scope : Scope) : Prop where
  q : excInitIn K C bmB newId = true
  ov : excOver K C bmB = true
  hd : hasDictIn K C = true
  sa : findIn K (.ref C) "__setattr__" = some (some (.builtin "object.__setattr__"))
  iC : findIn K (.ref C) "__init__" = some (some (.ref fI))
  tI : isFn K (.ref fI) = true
  kC : keepIn K (.ref C) = true
  su : ks_superIn K C C "__init__" = some (some (.builtin initId))
  mC : mroIn K C (.ref C) = some true
  sB : subIn K (.ref C) (.type B) = some true
  th : nsIn K cStatics "thirdparty.any" = some none
  cell : ∃ cl cld csl, K.lookup cc = some ⟨cl, cld, .cell (some (.ref C)), csl⟩
  code : ∃ ccl cdd vs ccs file tf, K.lookup cda = some ⟨ccl, cdd, .fields vs, ccs⟩ ∧ vs[2]? = some (.str file tf) ∧ ((prog.main.file : Str) == file) = true
  top : (prog.main.scope.names.lookup ("super" : Str)).isSome = false
  fn : ∃ oc od osl doc pm an ct, K.lookup fI = some ⟨oc, od, .func (ksFn "__init__" qual params body scope .none .none doc pm an (.ref cda) ct cc), osl⟩ ∧ codeIn K (.ref cda) qual = true
/-- the scope of such an __init__ -/
structure ScI (params : Arguments) (scope : Scope) : Prop where
  hp : ∃ ar, (params.posonlyargs ++ params.args).head? = some ar ∧ ar.arg = "self"
  ks : scope.names.lookup ("super" : Str) = some .globalImplicit
  kc : scope.names.lookup ("__class__" : Str) = some .free
  ka : scope.names.lookup ("self" : Str) = some .local
  kd : scope.kind = .function
  nc : ∀ x ∈ scope.names, x.2 ≠ .cell
  co : scope.isCoroutine = false
  ge : scope.isGenerator = false
theorem quiet_of {env : Env} (h : env.scope.kind = .function) : interactive env = false := by simp [interactive, h]
section
variable {prog : Program} {w : World} {A : Around} {E : Value → Shared → Prop} {R : Result → Shared → Prop} {s : Shared} {K : Frag} {mg mb : Str → Option Value} {C fI cc cda : Addr} {Bn newId iN B initId : String} {bmN bmB : List Value} {qual : Str} {params : Arguments} {rest : List Stmt} {scope : Scope}
theorem init_run (T : Bas Bn newId iN bmN B initId bmB) {p0 p1 p2 p3 p4 p5 : Pos} {txt : Str} {j : Nat}
    (Z : Own prog K C fI cc cda newId B initId bmB qual params (.Expr (.Call (.Attribute (.Call (.Name "super" p0) [] [] p1) "__init__" p2) [.Constant (.str txt) j p3] [] p4) p5 :: rest) scope) (S : ScI params scope)
    {x t0 : Addr} {args : List Value} {binds : List (Str × Value)} (X : K.In s.heap) (hlim : s.heap.NoLimit) (G : s.heap.Ns mainGlobals mg) (gs : mg "super" = none) (Bl : s.heap.Ns builtinsNs mb) (bs : mb "super" = some (.type "super"))
    (hx : s.heap.get? x = some (excO C t0)) (hnx : K.lookup x = none) (hroom : A.depth < recursionLimit)
    (hbind : ∀ doc pm an ct, BindsTo s (ksFn "__init__" qual params (.Expr (.Call (.Attribute (.Call (.Name "super" p0) [] [] p1) "__init__" p2) [.Constant (.str txt) j p3] [] p4) p5 :: rest) scope .none .none doc pm an (.ref cda) ct cc) ⟨.ref x :: args, []⟩ binds)
    (hloc : ∀ y ∈ binds, scope.names.lookup y.1 = some .local) (hself : binds.reverse.lookup ("self" : Str) = some (Value.ref x))
    (hev : ∀ L, ∃ pl : Sem Bool, eval (.Call (.Attribute (.Call (.Name "super" p0) [] [] p1) "__init__" p2) [.Constant (.str txt) j p3] [] p4) (ksEnv qual scope L fI (.ref cda) cc) = (do
      let ov ← attributeBase (.Call (.Name "super" p0) [] [] p1) "__init__" (ksEnv qual scope L fI (.ref cda) cc) (eval (.Call (.Name "super" p0) [] [] p1) (ksEnv qual scope L fI (.ref cda) cc))
      standAt p2.atName
      let (f, first) ← holding [ov] (getMethod ov "__init__" pl)
      callWith p4 f first (backTo p4 (starEach [.Constant (.str txt) j p3] (ksEnv qual scope L fI (.ref cda) cc))) []))
    (hq : ∀ h₁ tk₁ t1, h₁.Ns s.heap.objs.size (fun y => binds.reverse.lookup y) → (∀ b o, b ≠ x → s.heap.get? b = some o → h₁.get? b = some o) → h₁.get? x = some (excO C t1) →
      wpAny (model prog w) (A.deeper (ksEnv qual scope s.heap.objs.size fI (.ref cda) cc)) (execs rest (ksEnv qual scope s.heap.objs.size fI (.ref cda) cc)) (fun fl s' => R (.ok (.ret (match fl with | .ret v => v | _ => .none))) s')
        (fun e s' => wpAny (model prog w) (A.deeper (ksEnv qual scope s.heap.objs.size fI (.ref cda) cc)) (leaving (ksEnv qual scope s.heap.objs.size fI (.ref cda) cc) e) (fun _ s'' => R (.error e) s'') (fun e' s'' => R (.error e') s'') s')
        { s with heap := h₁, toks := tk₁ }) :
    codeAny (model prog w) A (.call (.ref fI) ⟨.ref x :: args, []⟩) R s := by
  obtain ⟨oc, od, osl, doc, pm, an, ct, ho, hcd⟩ := Z.fn
  obtain ⟨ar, hp, ear⟩ := S.hp
  obtain ⟨pl, hev⟩ := hev s.heap.objs.size
  refine ks_codeAny_call_defAt (binds := binds) hroom (X _ _ ho) rfl hlim (codeRec_of X hcd) rfl (hbind doc pm an ct) S.nc hloc (fun h₀ hns hk => ?_) S.co S.ge S.kd
  have X0 : K.In h₀ := X.keeps hk
  have hx0 := hk _ _ hx
  have hL : s.heap.objs.size ≠ x := Nat.ne_of_gt (Heap.lt_size hx)
  have G0 := G.keeps hk
  have B0 := Bl.keeps hk
  obtain ⟨cl, cld, csl, hcell⟩ := Z.cell
  obtain ⟨ccl, cdd, vs, ccs, file, tf, hcode, hvs, hfile⟩ := Z.code
  obtain ⟨cdC, hcC⟩ : ∃ cd, clsIn K C = some cd := by
    obtain ⟨cd, hc, _⟩ := any_some Z.hd
    exact ⟨cd, hc⟩
  obtain ⟨oC, hC1, hC2⟩ : ∃ oC, h₀.get? C = some oC ∧ oC.data = .cls cdC := by
    have hc := hcC
    unfold clsIn at hc
    split at hc
    · rename_i c d cd' sl ho
      cases hc
      exact ⟨_, X0 _ _ ho, rfl⟩
    · cases hc
  have I0 : InstAt h₀ x (excO C t0) C none := ⟨hx0, rfl, rfl, trivial⟩
  have hkA : scope.names.lookup ar.arg = some .local := by rw [ear]; exact S.ka
  refine ks_wpAt_execs_cons (ks_wpAt_Expr_any (ks_wpAt_MethodCall (pl := pl) ?_ hev) (quiet_of S.kd) (by first | rfl | exact rfl))
  refine ks_wpAt_super_base (f := fI) (cc := cda) (ar := ar) S.ks S.kc (by decide) rfl (X0 _ _ ho) rfl hp rfl (X0 _ _ hcode) rfl hvs hfile Z.top ?_
  refine ks_loadName_global S.kd S.ks (loadGlobal_builtin G0 gs B0 bs ⟨rfl, ?_⟩)
  refine wpAny_loadName_free S.kd S.kc rfl ⟨_, X0 _ _ hcell, rfl⟩ ?_
  refine wpAny_loadName_local S.kd hkA hns (v := .ref x) (by show binds.reverse.lookup ar.arg = _; rw [ear]; exact hself) ?_
  refine ks_wpAny_isType_cls hC1 hC2 ⟨rfl, ?_⟩
  refine ks_wpAny_call_super hC1 hC2 hx0 rfl (fun c e => by cases e) (looks_mroIn X0 Z.mC) (fun h₁ hso k₁ => ?_)
  have X1 : K.In h₁ := X0.keeps k₁
  have hx1 := k₁ _ _ hx0
  have I1 : InstAt h₁ x (excO C t0) C none := ⟨hx1, rfl, rfl, trivial⟩
  have hsu := Z.su
  unfold ks_superIn at hsu
  rw [hcC] at hsu
  refine kxs_getMethod T.kx hso (looks_opaque X1 Z.th) (l₀ := cdC.mro) (fun A Q E s k q => wpAny_bind ((looks_clsIn X1 hcC) A _ E s k (wpAny_pure q))) rfl X1 hsu (I1.type.andThen (looks_subIn X1 Z.sB)) (ks_ne X1 I1 hcC) (by decide) ?_
  have k₂ : ∀ b o, h₁.get? b = some o → (h₁.push (kxs_mw initId x)).get? b = some o := fun b o e => Heap.get?_push_of_some _ e
  have hu : (h₁.push (kxs_mw initId x)).get? h₁.objs.size = some (kxs_mw initId x) := Heap.get?_push_at rfl rfl
  refine kxs_callWith (i := initId) (x := x) (by rfl) (evalArgs_plain (Calls.spliced_cons (Calls.Constant_str (k := j) (pos := p3) (Calls.spliced_nil ⟨hu, ?_⟩))))
  obtain ⟨nm, N, qn, bs', bm, hdct, sn, sub, ab, col, dd, k0, k1, k2, k3, k5, hCo, hT⟩ := excInit_of (X1.keeps k₂) Z.q
  refine call_mw T hCo (k₂ _ _ hx1) hu (by show 1 ≤ sizeLine; rw [sizeLine_eq]; omega) fun h₃ k₃ hx3 => ?_
  refine wpAt_of_wpAny (hq h₃ _ _ ?_ (fun b o hb e => k₃ b o hb (k₂ _ _ (k₁ _ _ (hk b o e)))) hx3)
  obtain ⟨oL, es, ep, e1, e2⟩ := hns
  exact ⟨oL, es, ep, k₃ _ _ hL (k₂ _ _ (k₁ _ _ e1)), e2⟩
end
end XS
end PySem

set_option Elab.async false
set_option linter.all false
set_option maxRecDepth 100000
set_option maxHeartbeats 2000000
namespace PySem
namespace XS
open PySem.W PySem.Calls PyProof.Rows PySem.HandSPX
open Builtin Builtin.ObjectAttr
abbrev xo (C t1 : Addr) (d : Option Addr) : Obj := { cls := .ref C, dict := d, data := .fields #[.ref t1, .none, .none, .none, .bool false, .none] }
section
variable {prog : Program} {w : World} {A : Around} {E : Value → Shared → Prop} {s : Shared} {K : Frag} {C x t1 : Addr} {B : String} {bmB : List Value} {name : Str} {v : Value}
/-- self.name = v: the first one lays the object's dict -/
theorem put1 {Q : Unit → Shared → Prop} (SF : StoreFacts B bmB "object.__setattr__" "object") (X : K.In s.heap) (hx : s.heap.get? x = some (xo C t1 none)) (ov : excOver K C bmB = true) (hd : hasDictIn K C = true)
    (sa : findIn K (.ref C) "__setattr__" = some (some (.builtin "object.__setattr__"))) (ha : findIn K (.ref C) name = some none)
    (hq : ∀ h' tk' dx, (∀ b o, b ≠ x → s.heap.get? b = some o → h'.get? b = some o) → s.heap.objs.size ≤ dx → dx ≠ x → h'.get? x = some (xo C t1 (some dx)) →
      h'.Ns1 dx (fun y => if y = name then some v else none) → Q () { s with heap := h', toks := tk' }) :
    wpAny (model prog w) A (setAttr (.ref x) name v) Q E s := by
  have I : InstAt s.heap x (xo C t1 none) C none := ⟨hx, rfl, rfl, trivial⟩
  have nx : x ≠ s.heap.objs.size := Nat.ne_of_lt (Heap.lt_size hx)
  have ht : takerIn K C name = some none := by unfold takerIn; rw [ha]; rfl
  obtain ⟨cd, hc, hh⟩ := any_some hd
  refine set_plain X I sa (osa_openX SF (s := { s with toks := s.toks + 1 }) X I ov ht fun b => ?_)
  obtain ⟨hp, g, d, t, os⟩ := s
  have hcls : Looks (model prog w) hp (classData C) cd := looks_clsIn X hc
  obtain ⟨nm, bs, mro, ns, qn, hdc, sn, sb, ab, col, del⟩ := cd
  dsimp only at hh
  subst hh
  have hx' : hp.get? x = some (xo C t1 none) := hx
  show wpAny _ _ (storeInOwnDict _ _ _ _ _ _) _ _ ⟨hp, g, d, t + 1, os⟩
  unfold storeInOwnDict ownDictForStores
  repeat (first | with_reducible refine HandSPX.store_in_new ?_ ?_ | with_reducible refine wpAny_loadPart_at hx' ?_ | with_reducible refine hcls.at ?_ | wp_step)
  · exact ⟨_, #[], _, (Heap.get?_update_ne _ _ _ _ nx.symm).trans (Heap.get?_push_at rfl rfl), rfl, fun e he => absurd he (by simp), fun _ => rfl⟩
  · intro h' tk' hn' hs
    have hx₁ : (hp.push { cls := .type "dict", data := .dict #[] }).get? x = some (xo C t1 none) := Heap.get?_push_of_some _ hx'
    refine hq h' tk' hp.objs.size (fun b o hb ho => ?_) (Nat.le_refl _) nx.symm ?_ hn'
    · exact (hs.2 b (Nat.ne_of_lt (Heap.lt_size ho))).trans ((Heap.get?_update_ne _ _ _ _ hb).trans (Heap.get?_push_of_some _ ho))
    · exact (hs.2 x nx).trans (Heap.get?_update_self _ hx₁ rfl)
/-- a later one fills it -/
theorem put2 {Q : Unit → Shared → Prop} {dx : Addr} {m0 : Str → Option Value} {nl : List Str} (SF : StoreFacts B bmB "object.__setattr__" "object") (X : K.In s.heap) (hx : s.heap.get? x = some (xo C t1 (some dx))) (hns : s.heap.Ns1 dx m0) (hw : Within m0 nl) (hz : nl.length ≤ 1000)
    (ov : excOver K C bmB = true) (hd : hasDictIn K C = true)
    (sa : findIn K (.ref C) "__setattr__" = some (some (.builtin "object.__setattr__"))) (ha : findIn K (.ref C) name = some none)
    (hq : ∀ h' tk', (∀ b o, b ≠ dx → s.heap.get? b = some o → h'.get? b = some o) → h'.Ns1 dx (fun y => if y = name then some v else m0 y) → Q () { s with heap := h', toks := tk' }) :
    wpAny (model prog w) A (setAttr (.ref x) name v) Q E s := by
  obtain ⟨oD, esD, epD, hoD, hdD, _⟩ := hns.count hw
  have I : InstAt s.heap x (xo C t1 (some dx)) C (some oD) := ⟨hx, rfl, rfl, hoD⟩
  have ht : takerIn K C name = some none := by unfold takerIn; rw [ha]; rfl
  obtain ⟨cd, hc, hh⟩ := any_some hd
  refine set_plain X I sa (osa_openX SF (s := { s with toks := s.toks + 1 }) X I ov ht fun b => ?_)
  obtain ⟨hp, g, d, t, os⟩ := s
  have hcls : Looks (model prog w) hp (classData C) cd := looks_clsIn X hc
  obtain ⟨nm, bs, mro, ns, qn, hdc, sn, sb, ab, col, del⟩ := cd
  dsimp only at hh
  subst hh
  have hx' : hp.get? x = some (xo C t1 (some dx)) := hx
  have hns' : hp.Ns1 dx m0 := hns
  show wpAny _ _ (storeInOwnDict _ _ _ _ _ _) _ _ ⟨hp, g, d, t + 1, os⟩
  unfold storeInOwnDict ownDictForStores
  repeat (first | with_reducible refine OEX.store_in_old hns' hw hz ?_ | with_reducible refine wpAny_loadPart_at hx' ?_ | with_reducible refine hcls.at ?_ | wp_step)
  intro h' tk' hn' hs
  exact hq h' tk' (fun b o hb ho => (hs.2 b hb).trans ho) hn'
end

/-- an exception made: at e, of the class at C, with the fields fs -/
structure Made (h h' : Heap) (e C : Addr) (dv : Option Addr) (fs : List (Str × Value)) : Prop where
  keep : ∀ b o, h.get? b = some o → h'.get? b = some o
  new : h.objs.size ≤ e
  obj : ∃ t1, h'.get? e = some (xo C t1 dv)
  none_ : dv = none → fs = []
  some_ : ∀ d, dv = some d → h.objs.size ≤ d ∧ d ≠ e ∧ ∃ mA, h'.Ns1 d mA ∧ ∀ y, mA y = fs.lookup y

/-! ### the texts of __init__ -/
abbrev aSelf (p : Pos) : Arg := { arg := "self", annotation := none, pos := p }
abbrev aPar (n : Str) (p : Pos) : Arg := { arg := n, annotation := none, pos := p }
abbrev iArgs (l : List Arg) : Arguments := { posonlyargs := [], args := l, vararg := none, kwonlyargs := [], kw_defaults := [], kwarg := none, defaults := [] }
abbrev iSup (txt : Str) (j : Nat) (p0 p1 p2 p3 p4 p5 : Pos) : Stmt := .Expr (.Call (.Attribute (.Call (.Name "super" p0) [] [] p1) "__init__" p2) [.Constant (.str txt) j p3] [] p4) p5
abbrev iPut (f : Str) (q1 q2 q3 q4 : Pos) : Stmt := .Assign [.Attribute (.Name "self" q1) f q2] (.Name f q3) q4
abbrev iSc (l : List Str) : Scope := { kind := .function, names := (("self" : Str), NameKind.local) :: (l.map fun x => (x, NameKind.local)) ++ [(("__class__" : Str), NameKind.free), (("super" : Str), NameKind.globalImplicit)], isGenerator := false, isCoroutine := false, more := [] }
theorem sc_ok (l : List Str) (a0 : Pos) (as : List Arg) (h1 : ∀ x ∈ l, x ≠ ("super" : Str)) (h2 : ∀ x ∈ l, x ≠ ("__class__" : Str)) : ScI (iArgs (aSelf a0 :: as)) (iSc l) := by
  have lk : ∀ (y : Str) (k : NameKind), y ≠ ("self" : Str) → (∀ x ∈ l, x ≠ y) → [(("__class__" : Str), NameKind.free), (("super" : Str), NameKind.globalImplicit)].lookup y = some k → (iSc l).names.lookup y = some k := by
    intro y k h0 h h3
    show List.lookup y ((("self" : Str), NameKind.local) :: ((l.map fun x => (x, NameKind.local)) ++ [(("__class__" : Str), NameKind.free), (("super" : Str), NameKind.globalImplicit)])) = some k
    rw [List.lookup_cons, (by simpa using h0 : (y == ("self" : Str)) = false)]
    induction l with
    | nil => exact h3
    | cons a r ih =>
      have e : (y == a) = false := by simpa using fun z : y = a => h a (by simp) z.symm
      simp only [List.map_cons, List.cons_append]
      rw [List.lookup_cons, e]
      exact ih (fun x hx => h1 x (by simp [hx])) (fun x hx => h2 x (by simp [hx])) fun x hx => h x (by simp [hx])
  refine ⟨⟨aSelf a0, rfl, rfl⟩, lk _ _ (by decide) h1 (by decide), lk _ _ (by decide) h2 (by decide), rfl, rfl, fun x hx => ?_, rfl, rfl⟩
  simp only [List.cons_append, List.mem_cons, List.mem_append, List.mem_map, List.not_mem_nil, or_false] at hx
  rcases hx with rfl | ⟨y, _, rfl⟩ | rfl | rfl <;> exact fun z => nomatch z
theorem ev_sup {env : Env} {txt : Str} {j : Nat} {p0 p1 p2 p3 p4 : Pos} (hp : (p2.endLine == p4.line) = true) :
    eval (.Call (.Attribute (.Call (.Name "super" p0) [] [] p1) "__init__" p2) [.Constant (.str txt) j p3] [] p4) env = (do
      let ov ← attributeBase (.Call (.Name "super" p0) [] [] p1) "__init__" env (eval (.Call (.Name "super" p0) [] [] p1) env)
      standAt p2.atName
      let (f, first) ← holding [ov] (getMethod ov "__init__" (do return (← importBound (.Call (.Name "super" p0) [] [] p1) env).getD true))
      callWith p4 f first (backTo p4 (starEach [.Constant (.str txt) j p3] env)) []) := by
  show (do
      let ov ← attributeBase (.Call (.Name "super" p0) [] [] p1) "__init__" env (eval (.Call (.Name "super" p0) [] [] p1) env)
      standAt p2.atName
      methodCall (.Call (.Name "super" p0) [] [] p1) "__init__" p2 p4 env ov (([.Constant (.str txt) j p3] : List Expr).length + ([] : List Keyword).length) (backTo p4 (starEach [.Constant (.str txt) j p3] env)) (backToKw p4 (keywordEach [] env))) = _
  have e : methodCallForm (([.Constant (.str txt) j p3] : List Expr).length + ([] : List Keyword).length) (backTo p4 (starEach [.Constant (.str txt) j p3] env)) (backToKw p4 (keywordEach [] env)) = true := rfl
  simp only [methodCall, e, calleeOf, methodCallPos, hp, if_true, Bool.not_true, Bool.false_or, pure_bind]
  rfl
section
variable {prog : Program} {w : World} {A : Around} {E : Value → Shared → Prop} {R : Result → Shared → Prop} {s : Shared} {K : Frag} {mg mb : Str → Option Value} {C fI cc cda : Addr} {Bn newId iN B initId : String} {bmN bmB : List Value} {qual : Str}
variable {txt : Str} {j : Nat} {a0 a1 a2 p0 p1 p2 p3 p4 p5 q1 q2 q3 q4 r1 r2 r3 r4 : Pos}
/-- the class called: the object and its args are laid, then __init__ -/
theorem enter (T : Bas Bn newId iN bmN B initId bmB) {params : Arguments} {body : List Stmt} {scope : Scope} (Z : Own prog K C fI cc cda newId B initId bmB qual params body scope) {rest : List Value} (X : K.In s.heap) (hz : rest.length ≤ sizeLine)
    (hq : ∀ h1, (∀ b o, s.heap.get? b = some o → h1.get? b = some o) → h1.get? (s.heap.objs.size + 1) = some (excO C s.heap.objs.size) → K.lookup (s.heap.objs.size + 1) = none → h1.objs.size = s.heap.objs.size + 2 →
      codeAny (model prog w) (A.under (.builtin "type.__call__" ⟨.ref C :: rest, []⟩)) (.call (.ref fI) ⟨.ref (s.heap.objs.size + 1) :: rest, []⟩) (InitBack (s.heap.objs.size + 1) R) { s with heap := h1 }) :
    codeAny (model prog w) A (.call (.ref C) ⟨rest, []⟩) R s := by
  obtain ⟨nm, N', qn, bs, bm, hdct, sn, sub, ab, col, dd, k0, k1, k2, k3, k5, hC, hT⟩ := excInit_of X Z.q
  obtain ⟨oI, hoI, hcI⟩ : ∃ oI, s.heap.get? fI = some oI ∧ oI.cls = .type "function" := by
    obtain ⟨o, ho, hc⟩ := Option.map_eq_some_iff.mp (show (K.lookup fI).map (·.cls) = some (.type "function") from beq_iff_eq.mp Z.tI)
    exact ⟨o, X _ _ ho, hc⟩
  have hi : Looks (model prog w) s.heap (typeLookup (.ref C) "__init__") (some (.ref fI)) := looks_findIn X Z.iC
  have hnx : K.lookup (s.heap.objs.size + 1) = none := by
    cases e : K.lookup (s.heap.objs.size + 1) with
    | none => rfl
    | some o => exact absurd (Nat.lt_of_succ_lt (Heap.lt_size (X _ _ e))) (Nat.lt_irrefl _)
  obtain ⟨hp, g, d, tk, os⟩ := s
  refine run_call T hT hC hi (fun self => exc_bind hoI hcI self) hz (hq _ (fun b o e => Heap.get?_push_of_some _ (Heap.get?_push_of_some _ e)) (by show ((hp.push (kdv_tup rest)).push (excO C hp.objs.size)).get? (hp.objs.size + 1) = _; heap_get) hnx ?_)
  show ((hp.push (kdv_tup rest)).push (excO C hp.objs.size)).objs.size = hp.objs.size + 2
  rw [Heap.size_push, Heap.size_push]
theorem made0 (T : Bas Bn newId iN bmN B initId bmB) (Z : Own prog K C fI cc cda newId B initId bmB qual (iArgs [aSelf a0]) [iSup txt j p0 p1 p2 p3 p4 p5] (iSc []))
    (X : K.In s.heap) (hlim : s.heap.NoLimit) (G : s.heap.Ns mainGlobals mg) (gs : mg "super" = none) (Bl : s.heap.Ns builtinsNs mb) (bs : mb "super" = some (.type "super")) (hroom : A.depth + 1 < recursionLimit) (hp : (p2.endLine == p4.line) = true)
    (hq : ∀ h' tk e, Made s.heap h' e C none [] → R (.ok (.ret (.ref e))) { s with heap := h', toks := tk }) :
    codeAny (model prog w) A (.call (.ref C) ⟨[], []⟩) R s := by
  refine enter T Z X (Nat.zero_le _) fun h1 k1 he hnx hsz => ?_
  refine init_run T Z (sc_ok [] a0 [] (by simp) (by simp)) (binds := [("self", .ref (s.heap.objs.size + 1))]) (s := { s with heap := h1 }) (X.keeps k1) (hlim.keeps k1) (G.keeps k1) gs (Bl.keeps k1) bs he hnx (show A.depth + 1 < recursionLimit from hroom)
    (fun _ _ _ _ => BindsTo.of_eq (by first | rfl | with_unfolding_all rfl)) (by simp) rfl (fun L => ⟨_, ev_sup hp⟩) fun h2 tk2 t1 hns k2 he2 => ?_
  refine wpAny_execs_nil ⟨rfl, hq h2 _ _ ⟨fun b o e => k2 b o (Nat.ne_of_lt (Nat.lt_succ_of_lt (Heap.lt_size e))) (k1 b o e), Nat.le_succ _, ⟨t1, he2⟩, fun _ => rfl, fun d z => nomatch z⟩⟩
theorem lds {M : Model} {env : Env} {m : Str → Option Value} {x : Str} {pos : Pos} {v : Value} {Q : Value → Shared → Prop} (hk : env.scope.kind = .function) (hl : env.kindOf x = some .local) (hn : s.heap.Ns env.locals m) (hv : m x = some v) (hd : (x == ("__debug__" : Str)) = false) (h : Q v s) :
    wpAny M A (eval (.Name x pos) env) Q E s := wpAny_Name (wpAny_loadName_local hk hl hn hv h) hd
/-- how the parameters are bound (at written names: by rfl) -/
def Bd (qual : Str) (params : Arguments) (body : List Stmt) (scope : Scope) (fs : List Str) : Prop := ∀ (s : Shared) (cda cc : Addr) (vs : List Value) (doc pm : Value) (an : Option Addr) (ct : Value), vs.length = fs.length + 1 →
  BindsTo s (ksFn "__init__" qual params body scope .none .none doc pm an (.ref cda) ct cc) ⟨vs, []⟩ ((("self" : Str) :: fs).zip vs)
theorem made1 {f : Str} {v : Value} (T : Bas Bn newId iN bmN B initId bmB) (Z : Own prog K C fI cc cda newId B initId bmB qual (iArgs [aSelf a0, aPar f a1]) [iSup txt j p0 p1 p2 p3 p4 p5, iPut f q1 q2 q3 q4] (iSc [f]))
    (X : K.In s.heap) (hlim : s.heap.NoLimit) (G : s.heap.Ns mainGlobals mg) (gs : mg "super" = none) (Bl : s.heap.Ns builtinsNs mb) (bs : mb "super" = some (.type "super")) (hroom : A.depth + 1 < recursionLimit) (hp : (p2.endLine == p4.line) = true)
    (f1 : f ≠ "self") (f2 : f ≠ "super") (f3 : f ≠ "__class__") (f4 : (f == ("__debug__" : Str)) = false) (hf : findIn K (.ref C) f = some none) (hb : Bd qual (iArgs [aSelf a0, aPar f a1]) [iSup txt j p0 p1 p2 p3 p4 p5, iPut f q1 q2 q3 q4] (iSc [f]) [f])
    (hq : ∀ h' tk e d, Made s.heap h' e C (some d) [(f, v)] → R (.ok (.ret (.ref e))) { s with heap := h', toks := tk }) :
    codeAny (model prog w) A (.call (.ref C) ⟨[v], []⟩) R s := by
  have e0 : (f == ("self" : Str)) = false := by simpa using f1
  have e1 : (("self" : Str) == f) = false := by simpa using fun z : ("self" : Str) = f => f1 z.symm
  refine enter T Z X (by show 1 ≤ sizeLine; rw [sizeLine_eq]; omega) fun h1 k1 he hnx hsz => ?_
  refine init_run T Z (sc_ok [f] a0 [aPar f a1] (by simpa using f2) (by simpa using f3)) (binds := [("self", .ref (s.heap.objs.size + 1)), (f, v)]) (s := { s with heap := h1 }) (X.keeps k1) (hlim.keeps k1) (G.keeps k1) gs (Bl.keeps k1) bs he hnx (show A.depth + 1 < recursionLimit from hroom)
    (fun _ _ _ _ => hb _ _ _ _ _ _ _ _ rfl) (by simp [List.lookup, e0]) (by simp [List.lookup, e1]) (fun L => ⟨_, ev_sup hp⟩) fun h2 tk2 t1 hns k2 he2 => ?_
  have up : ∀ b o, s.heap.get? b = some o → h2.get? b = some o := fun b o e => k2 b o (Nat.ne_of_lt (Nat.lt_succ_of_lt (Heap.lt_size e))) (k1 b o e)
  have h2s : s.heap.objs.size ≤ h2.objs.size := Nat.le_trans (Nat.le_succ _) (Nat.le_of_lt (Heap.lt_size he2))
  have lF : (iSc [f]).names.lookup f = some .local := by simp [List.lookup, e0]
  refine wpAny_execs_cons (plainObj_wpAny_Assign_Attribute ?_ (by first | rfl | with_unfolding_all rfl))
  refine lds rfl lF hns (v := v) (by simp [List.lookup]) f4 (lds rfl rfl hns (v := .ref (s.heap.objs.size + 1)) (by simp [List.lookup, e1]) (by decide) ?_)
  refine put1 T.sf (X.keeps up) he2 Z.ov Z.hd Z.sa hf fun h3 tk3 dx k3 dn dne hx3 hn3 => ?_
  refine wpAny_execs_nil ⟨rfl, hq h3 _ _ dx ⟨fun b o e => k3 b o (Nat.ne_of_lt (Nat.lt_succ_of_lt (Heap.lt_size e))) (up b o e), Nat.le_succ _, ⟨t1, hx3⟩, (fun z => nomatch z), fun d z => ?_⟩⟩
  cases z
  refine ⟨Nat.le_trans h2s dn, dne, _, hn3, fun y => ?_⟩
  by_cases hy : y = f
  · subst hy; simp [List.lookup]
  · have : (y == f) = false := by simpa using hy
    simp [List.lookup, hy, this]
theorem made2 {f g : Str} {v u : Value} (T : Bas Bn newId iN bmN B initId bmB) (Z : Own prog K C fI cc cda newId B initId bmB qual (iArgs [aSelf a0, aPar f a1, aPar g a2]) [iSup txt j p0 p1 p2 p3 p4 p5, iPut f q1 q2 q3 q4, iPut g r1 r2 r3 r4] (iSc [f, g]))
    (X : K.In s.heap) (hlim : s.heap.NoLimit) (G : s.heap.Ns mainGlobals mg) (gs : mg "super" = none) (Bl : s.heap.Ns builtinsNs mb) (bs : mb "super" = some (.type "super")) (hroom : A.depth + 1 < recursionLimit) (hp : (p2.endLine == p4.line) = true)
    (f1 : f ≠ "self") (f2 : f ≠ "super") (f3 : f ≠ "__class__") (f4 : (f == ("__debug__" : Str)) = false) (hf : findIn K (.ref C) f = some none)
    (g1 : g ≠ "self") (g2 : g ≠ "super") (g3 : g ≠ "__class__") (g4 : (g == ("__debug__" : Str)) = false) (hg : findIn K (.ref C) g = some none) (fg : f ≠ g) (hb : Bd qual (iArgs [aSelf a0, aPar f a1, aPar g a2]) [iSup txt j p0 p1 p2 p3 p4 p5, iPut f q1 q2 q3 q4, iPut g r1 r2 r3 r4] (iSc [f, g]) [f, g])
    (hq : ∀ h' tk e d, Made s.heap h' e C (some d) [(f, v), (g, u)] → R (.ok (.ret (.ref e))) { s with heap := h', toks := tk }) :
    codeAny (model prog w) A (.call (.ref C) ⟨[v, u], []⟩) R s := by
  have e0 : (f == ("self" : Str)) = false := by simpa using f1
  have e1 : (("self" : Str) == f) = false := by simpa using fun z : ("self" : Str) = f => f1 z.symm
  have e2 : (g == ("self" : Str)) = false := by simpa using g1
  have e3 : (("self" : Str) == g) = false := by simpa using fun z : ("self" : Str) = g => g1 z.symm
  have e4 : (f == g) = false := by simpa using fg
  have e5 : (g == f) = false := by simpa using fun z : g = f => fg z.symm
  refine enter T Z X (by show 2 ≤ sizeLine; rw [sizeLine_eq]; omega) fun h1 k1 he hnx hsz => ?_
  refine init_run T Z (sc_ok [f, g] a0 [aPar f a1, aPar g a2] (by simpa using ⟨f2, g2⟩) (by simpa using ⟨f3, g3⟩)) (binds := [("self", .ref (s.heap.objs.size + 1)), (f, v), (g, u)]) (s := { s with heap := h1 }) (X.keeps k1) (hlim.keeps k1) (G.keeps k1) gs (Bl.keeps k1) bs he hnx (show A.depth + 1 < recursionLimit from hroom)
    (fun _ _ _ _ => hb _ _ _ _ _ _ _ _ rfl) (by simp [List.lookup, e0, e2, e5]) (by simp [List.lookup, e1, e3]) (fun L => ⟨_, ev_sup hp⟩) fun h2 tk2 t1 hns k2 he2 => ?_
  have up : ∀ b o, s.heap.get? b = some o → h2.get? b = some o := fun b o e => k2 b o (Nat.ne_of_lt (Nat.lt_succ_of_lt (Heap.lt_size e))) (k1 b o e)
  have h2s : s.heap.objs.size ≤ h2.objs.size := Nat.le_trans (Nat.le_succ _) (Nat.le_of_lt (Heap.lt_size he2))
  have lF : (iSc [f, g]).names.lookup f = some .local := by simp [List.lookup, e0]
  have lG : (iSc [f, g]).names.lookup g = some .local := by simp [List.lookup, e2, e5]
  refine wpAny_execs_cons (plainObj_wpAny_Assign_Attribute ?_ (by first | rfl | with_unfolding_all rfl))
  refine lds rfl lF hns (v := v) (by simp [List.lookup, e4]) f4 (lds rfl rfl hns (v := .ref (s.heap.objs.size + 1)) (by simp [List.lookup, e1, e3]) (by decide) ?_)
  refine put1 T.sf (X.keeps up) he2 Z.ov Z.hd Z.sa hf fun h3 tk3 dx k3 dn dne hx3 hn3 => ?_
  have up3 : ∀ b o, s.heap.get? b = some o → h3.get? b = some o := fun b o e => k3 b o (Nat.ne_of_lt (Nat.lt_succ_of_lt (Heap.lt_size e))) (up b o e)
  have nL : h1.objs.size ≠ s.heap.objs.size + 1 := by rw [hsz]; omega
  have ns3 : h3.Ns h1.objs.size (fun y => List.lookup y [(("self" : Str), Value.ref (s.heap.objs.size + 1)), (f, v), (g, u)].reverse) := by
    obtain ⟨oL, es, ep, z1, z2⟩ := hns
    exact ⟨oL, es, ep, k3 _ _ nL z1, z2⟩
  refine wpAny_execs_cons (plainObj_wpAny_Assign_Attribute ?_ (by first | rfl | with_unfolding_all rfl))
  refine lds rfl lG ns3 (v := u) (by simp [List.lookup, e5]) g4 (lds rfl rfl ns3 (v := .ref (s.heap.objs.size + 1)) (by simp [List.lookup, e1, e3]) (by decide) ?_)
  refine put2 T.sf (X.keeps up3) hx3 hn3 (nl := [f]) (fun y hy => ?_) (by show 1 ≤ 1000; omega) Z.ov Z.hd Z.sa hg fun h4 tk4 k4 hn4 => ?_
  · by_cases z : y = f
    · simp [z]
    · simp [z] at hy
  have dL : ∀ b o, s.heap.get? b = some o → b ≠ dx := fun b o e z => absurd (Nat.lt_of_lt_of_le (Heap.lt_size e) (Nat.le_trans h2s dn)) (by rw [z]; exact Nat.lt_irrefl _)
  refine wpAny_execs_nil ⟨rfl, hq h4 _ _ dx ⟨fun b o e => k4 b o (dL b o e) (up3 b o e), Nat.le_succ _, ⟨t1, k4 _ _ (Ne.symm dne) hx3⟩, (fun z => nomatch z), fun d z => ?_⟩⟩
  cases z
  refine ⟨Nat.le_trans h2s dn, dne, _, hn4, fun y => ?_⟩
  by_cases hy : y = f
  · subst hy
    simp [List.lookup, fg]
  · have z1 : (y == f) = false := by simpa using hy
    by_cases hz : y = g
    · subst hz
      simp [List.lookup, z1]
    · have z2 : (y == g) = false := by simpa using hz
      simp [List.lookup, hy, hz, z1, z2]
end
end XS
end PySem

set_option Elab.async false
set_option linter.all false
set_option maxRecDepth 100000
set_option maxHeartbeats 2000000
namespace PySem
namespace XS
open PySem.W PySem.Calls PyProof.Rows PySem.HandSPX
/-- the class at C makes exceptions with the fields fs -/
def MkC (P : Program) (w : World) (K : Frag) (mg : Str → Option Value) (C : Addr) (fs : List Str) : Prop :=
  ∀ (A : Around) (s : Shared) (vs : List Value) (R : Result → Shared → Prop), K.In s.heap → s.heap.NoLimit → s.heap.Ns mainGlobals mg → (∃ mb, s.heap.Ns builtinsNs mb ∧ mb "super" = some (.type "super")) → A.depth + 1 < recursionLimit → vs.length = fs.length →
    (∀ h' tk e d, Made s.heap h' e C d (fs.zip vs) → (d = none ↔ fs = []) → R (.ok (.ret (.ref e))) { s with heap := h', toks := tk }) → codeAny (model P w) A (.call (.ref C) ⟨vs, []⟩) R s
section
variable {P : Program} {w : World} {K : Frag} {mg : Str → Option Value} {C fI cc cda : Addr} {Bn newId iN B initId : String} {bmN bmB : List Value} {qual : Str}
variable {txt : Str} {j : Nat} {a0 a1 a2 p0 p1 p2 p3 p4 p5 q1 q2 q3 q4 r1 r2 r3 r4 : Pos}
theorem mkC0 (T : Bas Bn newId iN bmN B initId bmB) (Z : Own P K C fI cc cda newId B initId bmB qual (iArgs [aSelf a0]) [iSup txt j p0 p1 p2 p3 p4 p5] (iSc [])) (gs : mg "super" = none) (hp : (p2.endLine == p4.line) = true) : MkC P w K mg C [] := by
  intro A s vs R X hl G ⟨mb, hB, eB⟩ hr hn hq
  cases vs with
  | nil => exact made0 T Z X hl G gs hB eB hr hp fun h' tk e M => hq h' tk e none M ⟨fun _ => rfl, fun _ => rfl⟩
  | cons v r => cases hn
theorem mkC1 {f : Str} (T : Bas Bn newId iN bmN B initId bmB) (Z : Own P K C fI cc cda newId B initId bmB qual (iArgs [aSelf a0, aPar f a1]) [iSup txt j p0 p1 p2 p3 p4 p5, iPut f q1 q2 q3 q4] (iSc [f])) (gs : mg "super" = none) (hp : (p2.endLine == p4.line) = true)
    (f1 : f ≠ "self") (f2 : f ≠ "super") (f3 : f ≠ "__class__") (f4 : (f == ("__debug__" : Str)) = false) (hf : findIn K (.ref C) f = some none) (hb : Bd qual (iArgs [aSelf a0, aPar f a1]) [iSup txt j p0 p1 p2 p3 p4 p5, iPut f q1 q2 q3 q4] (iSc [f]) [f]) : MkC P w K mg C [f] := by
  intro A s vs R X hl G ⟨mb, hB, eB⟩ hr hn hq
  match vs, hn with
  | [v], _ => exact made1 T Z X hl G gs hB eB hr hp f1 f2 f3 f4 hf hb fun h' tk e d M => hq h' tk e (some d) M ⟨(fun z => nomatch z), fun z => nomatch z⟩
theorem mkC2 {f g : Str} (T : Bas Bn newId iN bmN B initId bmB) (Z : Own P K C fI cc cda newId B initId bmB qual (iArgs [aSelf a0, aPar f a1, aPar g a2]) [iSup txt j p0 p1 p2 p3 p4 p5, iPut f q1 q2 q3 q4, iPut g r1 r2 r3 r4] (iSc [f, g])) (gs : mg "super" = none) (hp : (p2.endLine == p4.line) = true)
    (f1 : f ≠ "self") (f2 : f ≠ "super") (f3 : f ≠ "__class__") (f4 : (f == ("__debug__" : Str)) = false) (hf : findIn K (.ref C) f = some none)
    (g1 : g ≠ "self") (g2 : g ≠ "super") (g3 : g ≠ "__class__") (g4 : (g == ("__debug__" : Str)) = false) (hg : findIn K (.ref C) g = some none) (fg : f ≠ g)
    (hb : Bd qual (iArgs [aSelf a0, aPar f a1, aPar g a2]) [iSup txt j p0 p1 p2 p3 p4 p5, iPut f q1 q2 q3 q4, iPut g r1 r2 r3 r4] (iSc [f, g]) [f, g]) : MkC P w K mg C [f, g] := by
  intro A s vs R X hl G ⟨mb, hB, eB⟩ hr hn hq
  match vs, hn with
  | [v, u], _ => exact made2 T Z X hl G gs hB eB hr hp f1 f2 f3 f4 hf g1 g2 g3 g4 hg fg hb fun h' tk e d M => hq h' tk e (some d) M ⟨(fun z => nomatch z), fun z => nomatch z⟩
end
end XS
end PySem
namespace L2
open PySem PySem.Spec PyProof.Rows
theorem relO_zip : ∀ {fs : List Str} {vs : List V} {us : List Value}, Vals vs us → ∀ y, RelO ((fs.zip vs).lookup y) ((fs.zip us).lookup y)
  | [], _, _, _, _ => trivial
  | _ :: _, _, _, .nil, _ => trivial
  | f :: fs, _, _, .cons r t, y => by
    simp only [List.zip_cons_cons, List.lookup_cons]
    cases y == f with
    | true => exact r
    | false => exact relO_zip t y
/-- what stands behind the making: raised, and as a value -/
def kMkX (C : Addr) : List Str → List V → Hp → XK → Prop
  | [], _, H, Q => Q (.ref C) none H
  | f :: fs, vs, H, Q => ∀ d, H d = none → Q (.ref C) (some d) (upd H d (.xd ((f :: fs).zip vs)))
def kMkV (C : Addr) : List Str → List V → Hp → VK → Prop
  | [], _, H, Q => ∀ e, H e = none → Q (.ref e) (upd H e (exo e C none))
  | f :: fs, vs, H, Q => ∀ d e, H d = none → H e = none → d ≠ e → Q (.ref e) (upd (upd H d (.xd ((f :: fs).zip vs))) e (exo e C (some d)))
section
variable {X : Cx} {C : Addr} {fs : List Str}
/-- the state behind the call, without the new object, and with it -/
theorem Inv.xmade {pins : List (Addr × Obj)} {σ : St} {H : Hp} {s : Shared} {h' : Heap} {tk : Nat} {e : Addr} {d : Option Addr} {vs : List V} {us : List Value} (I : Inv X pins σ H s) (r : Vals vs us) (M : PySem.XS.Made s.heap h' e C d (fs.zip us)) :
    ∃ (H' : Hp) (G : Heap), (d = none → H' = H) ∧ (∀ dd, d = some dd → H dd = none ∧ dd ≠ e ∧ H' = upd H dd (.xd (fs.zip vs))) ∧ H e = none ∧ H' e = none ∧ G.get? e = none ∧ (∀ b o, G.get? b = some o → h'.get? b = some o) ∧
      Inv X pins σ H' { s with heap := G, toks := tk } ∧ Inv X pins σ (upd H' e (exo e C d)) { s with heap := h', toks := tk } := by
  obtain ⟨G, g1, g2⟩ := restrict h' fun b => decide (b ≠ e)
  have gk : ∀ b, b ≠ e → G.get? b = h'.get? b := fun b hb => g1 b (decide_eq_true hb)
  have ge : G.get? e = none := g2 e (by simp)
  have old : ∀ b o, s.heap.get? b = some o → G.get? b = some o := fun b o q => (gk b (Nat.ne_of_lt (Nat.lt_of_lt_of_le (Heap.lt_size q) M.new))).trans (M.keep b o q)
  have back : ∀ b o, G.get? b = some o → h'.get? b = some o := fun b o q => by
    by_cases hb : b = e
    · rw [hb, ge] at q; cases q
    · rw [← gk b hb]; exact q
  have ne : H e = none := I.hok.fresh M.new
  obtain ⟨t1, ho⟩ := M.obj
  cases d with
  | none =>
    have J : Inv X pins σ H { s with heap := G, toks := tk } := I.kept (t' := tk) old
    exact ⟨H, G, fun _ => rfl, (fun dd z => nomatch z), ne, ne, ge, back, J, J.laidN back ge ne (exo_ok ho)⟩
  | some dd =>
    obtain ⟨dn, dne, mA, hns, hm⟩ := M.some_ dd rfl
    have hd : H dd = none := I.hok.fresh dn
    have ob : ObjOk X.prog X.w (upd H dd (.xd (fs.zip vs))) G dd (.xd (fs.zip vs)) := by
      refine ⟨mA, hns.at (fun o q => (gk dd dne).trans q), fun f => ?_⟩
      rw [hm]
      exact relO_zip r f
    have J : Inv X pins σ (upd H dd (.xd (fs.zip vs))) { s with heap := G, toks := tk } := I.laid (t' := tk) old dn ob
    have ne' : (upd H dd (.xd (fs.zip vs))) e = none := by rw [upd_ne (Ne.symm dne)]; exact ne
    exact ⟨_, G, (fun z => nomatch z), fun d' z => by cases z; exact ⟨hd, dne, rfl⟩, ne, ne', ge, back, J, J.laidN back ge ne' (exo_ok ho)⟩
theorem Inv.bltSuper {pins : List (Addr × Obj)} {σ : St} {H : Hp} {s : Shared} (I : Inv X pins σ H s) : ∃ mb, s.heap.Ns builtinsNs mb ∧ mb "super" = some (.type "super") := by
  obtain ⟨mb, hb, e⟩ := I.mod.blt
  exact ⟨mb, hb.keeps I.bk, (e _ (by decide)).trans (by decide +kernel)⟩
theorem run_val (T : PySem.XS.MkC X.prog X.w X.K X.mg C fs) {k : Nat} (hr : Room (k + 1) X.A) {pins : List (Addr × Obj)} {σ : St} {H : Hp} {s : Shared} {vs : List V} {us : List Value} {Q : VK} (I : Inv X pins σ H s) (r : Vals vs us) (hl : vs.length = fs.length) (h : kMkV C fs vs H Q) :
    wpAny (model X.prog X.w) X.A (call (.ref C) us) (EP X pins σ Q) X.xe s := by
  refine wpAny_call (T X.A s us _ I.kIn I.nolimit (I.mod.glob.keeps I.bk) I.bltSuper (by have := hr.dp; omega) (by rw [← r.length, hl]) fun h' tk e d M hd => ?_)
  obtain ⟨H', G, e1, e2, ne, ne', ge, bk, J, J'⟩ := I.xmade (tk := tk) r M
  refine ⟨.ref e, _, J', rfl, ?_⟩
  cases fs with
  | nil =>
    have z := hd.mpr rfl
    subst z
    rw [e1 rfl]
    exact h e ne
  | cons f fs =>
    cases d with
    | none => exact absurd (hd.mp rfl) (by simp)
    | some dd =>
      obtain ⟨hd0, dne, eH⟩ := e2 dd rfl
      rw [eH]
      exact h dd e hd0 ne dne
theorem run_mk (T : PySem.XS.MkC X.prog X.w X.K X.mg C fs) (hR : Raises X (.ref C)) {k : Nat} (hr : Room (k + 1) X.A) {pins : List (Addr × Obj)} {σ : St} {H : Hp} {s : Shared} {vs : List V} {us : List Value} {Q : XK} (I : Inv X pins σ H s) (r : Vals vs us) (hl : vs.length = fs.length) (h : kMkX C fs vs H Q) :
    wpAny (model X.prog X.w) X.A (call (.ref C) us) (MkP X pins σ Q) X.xe s := by
  refine wpAny_call (T X.A s us _ I.kIn I.nolimit (I.mod.glob.keeps I.bk) I.bltSuper (by have := hr.dp; omega) (by rw [← r.length, hl]) fun h' tk e d M hd => ?_)
  obtain ⟨H', G, e1, e2, ne, ne', ge, bk, J, J'⟩ := I.xmade (tk := tk) r M
  obtain ⟨t1, ho⟩ := M.obj
  have q : Q (.ref C) d H' := by
    cases fs with
    | nil =>
      have z := hd.mpr rfl
      subst z
      rw [e1 rfl]
      exact h
    | cons f fs =>
      cases d with
      | none => exact absurd (hd.mp rfl) (by simp)
      | some dd =>
        obtain ⟨hd0, dne, eH⟩ := e2 dd rfl
        rw [eH]
        exact h dd hd0
  exact ⟨e, _, _, { s with heap := G, toks := tk }, H', .ref C, d, rfl, J, bk, ge, ho, ⟨rfl, rfl⟩, rfl, rfl, ne', rfl, I.bare, hR, q⟩
variable {x : Str} {p pos : Pos} {e : Expr} {es : List Expr} {ta : TA} {k : Nat}
def tMkV (C : Addr) (fs : List Str) (ta : TA) : TE := fun σ H Q => ta σ H fun vs H1 => vs.length = fs.length ∧ kMkV C fs vs H1 Q
def tMkX (C : Addr) (fs : List Str) (ta : TA) : St → Hp → XK → Prop := fun σ H Q => ta σ H fun vs H1 => vs.length = fs.length ∧ kMkX C fs vs H1 Q
theorem pe_xmk (T : PySem.XS.MkC X.prog X.w X.K X.mg C fs) (kC : PySem.W.keepIn X.K (.ref C) = true) (hr : Room (k + 1) X.A) (hg : Gl X x) (hm : X.mg x = some (.ref C)) (ha : PA X (e :: es) ta)
    (hdb : (x == ("__debug__" : Str)) = false := by decide) (he : starEach (e :: es) X.env = (false, eval e X.env) :: starEach es X.env := by rfl) (hpl : (backTo pos (starEach es X.env)).any (·.1) = false := by rfl) :
    PE X (.Call (.Name x p) (e :: es) [] pos) (tMkV C fs ta) := by
  refine ⟨fun pins s σ H Q I h => ?_⟩
  refine wpAny_Call_Name_kw (ld_glob I hg hm ?_ hdb)
  exact PySem.W.callWith_K (h₀ := X.base) I.ok.mod.kin kC (thn (ha.run pos pins s σ H _ I h) fun us s1 ⟨vs, H1, I1, r, hl, q⟩ => ⟨I1.kIn, run_val T hr I1 r hl q⟩) he hpl
theorem pe_xmk0 (T : PySem.XS.MkC X.prog X.w X.K X.mg C []) (kC : PySem.W.keepIn X.K (.ref C) = true) (hr : Room (k + 1) X.A) (hg : Gl X x) (hm : X.mg x = some (.ref C)) (hdb : (x == ("__debug__" : Str)) = false := by decide) :
    PE X (.Call (.Name x p) [] [] pos) (tMkV C [] tNil) := by
  refine ⟨fun pins s σ H Q I h => ?_⟩
  refine wpAny_Call_Name_kw (ld_glob I hg hm ?_ hdb)
  exact PySem.W.callWith_K0 I.kIn kC (run_val (us := []) T hr I .nil rfl h.2)
theorem pmk_x (T : PySem.XS.MkC X.prog X.w X.K X.mg C fs) (hR : Raises X (.ref C)) (kC : PySem.W.keepIn X.K (.ref C) = true) (hr : Room (k + 1) X.A) (hg : Gl X x) (hm : X.mg x = some (.ref C)) (ha : PA X (e :: es) ta)
    (hdb : (x == ("__debug__" : Str)) = false := by decide) (he : starEach (e :: es) X.env = (false, eval e X.env) :: starEach es X.env := by rfl) (hpl : (backTo pos (starEach es X.env)).any (·.1) = false := by rfl) :
    PMk X (.Call (.Name x p) (e :: es) [] pos) (tMkX C fs ta) := by
  intro pins s σ H Q I h
  refine wpAny_Call_Name_kw (ld_glob I hg hm ?_ hdb)
  exact PySem.W.callWith_K (h₀ := X.base) I.ok.mod.kin kC (thn (ha.run pos pins s σ H _ I h) fun us s1 ⟨vs, H1, I1, r, hl, q⟩ => ⟨I1.kIn, run_mk T hR hr I1 r hl q⟩) he hpl
theorem pmk_x0 (T : PySem.XS.MkC X.prog X.w X.K X.mg C []) (hR : Raises X (.ref C)) (kC : PySem.W.keepIn X.K (.ref C) = true) (hr : Room (k + 1) X.A) (hg : Gl X x) (hm : X.mg x = some (.ref C)) (hdb : (x == ("__debug__" : Str)) = false := by decide) :
    PMk X (.Call (.Name x p) [] [] pos) (tMkX C [] tNil) := by
  intro pins s σ H Q I h
  refine wpAny_Call_Name_kw (ld_glob I hg hm ?_ hdb)
  exact PySem.W.callWith_K0 I.kIn kC (run_mk (us := []) T hR hr I .nil rfl h.2)

/-! ### an exception held as a value: its fields, its classes -/
/-- what stands at a is an exception of the class at C -/
def ExAt (H : Hp) (a C : Addr) (fs : List (Str × V)) : Prop := (fs = [] ∧ H a = some (exo a C none)) ∨ ∃ d, H a = some (exo a C (some d)) ∧ H d = some (.xd fs)
def tXfld (K : PySem.W.Frag) (ta : TE) (n : Str) : TE := fun σ H Q => ta σ H fun x H1 => ∃ a C d fs v, x = .ref a ∧ H1 a = some (exo a C (some d)) ∧ H1 d = some (.xd fs) ∧ XfC K C ∧ PySem.W.findIn K (.ref C) n = some none ∧ fs.lookup n = some v ∧ Q v H1
theorem pe_xfld {n : Str} {te : TE} (he : PE X e te) (hb : attributeBase e n X.env (eval e X.env) = eval e X.env := by rfl) : PE X (.Attribute e n pos) (tXfld X.K te n) := by
  refine ⟨fun pins s σ H Q I h => ?_⟩
  refine attr_of hb (thn (he.run pins s σ H _ I h) fun u s1 hh => ?_)
  obtain ⟨x, H1, I1, rx, a, C, d, fs, v, ex, ea, ed, T, hno, l, q⟩ := hh
  subst ex
  obtain rfl : u = Value.ref a := rx
  obtain ⟨t1, ho⟩ := exo_at I1.hok ea
  have hx : ObjOk X.prog X.w H1 s1.heap d (.xd fs) := I1.hok d _ ed
  obtain ⟨mA, hns, hr⟩ := hx
  obtain ⟨od, hod, hl⟩ := lookIn_ns hns
  obtain ⟨u, hu, ru⟩ := RelO.some_of (v := v) (o := mA n) (by rw [← l]; exact hr n)
  have J : PySem.W.InstAt s1.heap a (PySem.XS.xo C t1 (some d)) C (some od) := ⟨ho, rfl, rfl, hod⟩
  exact HandSPX.exc_get I1.kIn J T.ga T.gg T.exC (PySem.W.findObj_own T.hdC hno rfl (by rw [hl, hu])) (handed_of ru) ⟨v, H1, I1.tok _, ru, q⟩
/-- what the class must say, so that isinstance asks its instances rightly -/
def isB (K : PySem.W.Frag) (C : Addr) : Bool :=
  decide (PySem.W.findIn K (.ref C) "__getattribute__" = some (some (.builtin "BaseException.__getattribute__"))) && (decide (PySem.W.findIn K (.ref C) "__getattr__" = some none) && (decide (PySem.W.subIn K (.ref C) (.type "BaseException") = some true) && (PySem.W.hasDictIn K C &&
  (decide (PySem.W.findIn K (.ref C) "__class__" = some (some (.builtin "object.__class__"))) && (decide (PySem.W.specialIn K (.builtin "object.__class__") "__get__" = some (some (.builtin "getset_descriptor.__get__"))) && (decide (PySem.W.takesIn K (.builtin "object.__class__") = some true) && decide (PySem.W.mroIn K C (.type "object") = some true)))))))
theorem isB_ok {K : PySem.W.Frag} {C x : Addr} {ox : Obj} {od : Option Obj} (h : isB K C = true) : PySem.W.KitX K (.ref x) (.ref C) (fun h => PySem.W.InstAt h x ox C od) := by
  obtain ⟨h1, h⟩ := Bool.and_eq_true_iff.mp h
  obtain ⟨h2, h⟩ := Bool.and_eq_true_iff.mp h
  obtain ⟨h3, h⟩ := Bool.and_eq_true_iff.mp h
  obtain ⟨h4, h⟩ := Bool.and_eq_true_iff.mp h
  obtain ⟨h5, h⟩ := Bool.and_eq_true_iff.mp h
  obtain ⟨h6, h⟩ := Bool.and_eq_true_iff.mp h
  obtain ⟨h7, h8⟩ := Bool.and_eq_true_iff.mp h
  obtain ⟨cd, hc, _⟩ := PySem.W.any_some h4
  exact PySem.W.kitx_exc (by rw [hc]; rfl) (of_decide_eq_true h1) (of_decide_eq_true h2) (of_decide_eq_true h3) (of_decide_eq_true h5) (of_decide_eq_true h6) (of_decide_eq_true h7) (of_decide_eq_true h8)
def rIsX (K : PySem.W.Frag) : List V → Hp → VK → Prop := fun xs H Q => ∃ (a C : Addr) (fs : List (Str × V)) (c : V) (cv : Value) (b : Bool), xs = [.ref a, c] ∧ ExAt H a C fs ∧ isB K C = true ∧ (∀ u, RelV c u → u = cv) ∧ PySem.W.kitOne K (.ref C) cv = some b ∧ Q (.bl b) H
theorem call_isX : CallR X (.builtin "isinstance") (rIsX X.K) := by
  intro pins s σ H xs us Q I r h
  obtain ⟨a, C, fs, c, cv, b, rfl, hE, hC, hcv, e, q⟩ := h
  cases r with
  | cons rx rr =>
    cases rr with
    | cons rt rr =>
      cases rr
      cases rx
      have ec := hcv _ rt
      subst ec
      rcases hE with ⟨_, ha⟩ | ⟨d, ha, hd⟩
      · obtain ⟨t1, ho⟩ := exo_at I.hok ha
        have J : PySem.W.InstAt s.heap a (PySem.XS.xo C t1 none) C none := ⟨ho, rfl, rfl, trivial⟩
        exact PySem.W.kia_one (isB_ok hC) I.kIn J e (fun z => nomatch z) fun tk => ⟨.bl b, H, I.kept (t' := tk) fun _ _ z => z, rfl, q⟩
      · obtain ⟨t1, ho⟩ := exo_at I.hok ha
        have hx : ObjOk X.prog X.w H s.heap d (.xd fs) := I.hok d _ hd
        obtain ⟨mA, ⟨od, es, ep, hod, _⟩, hr⟩ := hx
        have J : PySem.W.InstAt s.heap a (PySem.XS.xo C t1 (some d)) C (some od) := ⟨ho, rfl, rfl, hod⟩
        exact PySem.W.kia_one (isB_ok hC) I.kIn J e (fun z => nomatch z) fun tk => ⟨.bl b, H, I.kept (t' := tk) fun _ _ z => z, rfl, q⟩
end
end L2

set_option Elab.async false
set_option linter.all false
set_option maxRecDepth 100000
set_option maxHeartbeats 2000000
/-! GG: promises of defs that are called where no repr is under way (Around.guards = some []); repr of data. -/
namespace L2
open PySem PySem.Spec PyProof.Rows
/-- as FnOk, for calls where no repr is under way -/
structure FnG (P : Program) (w : World) (K : PySem.W.Frag) (mg : Str → Option Value) (base : Heap) (CX : CXT) (k : Nat) (f : Addr) (fd : FuncData) (ps : List Str) (sp : Sp) : Prop where
  len : ∀ vs H Q E, sp vs H Q E → vs.length = ps.length
  run : ∀ (A : Around) (outer : List Env) (s : Shared) (H : Hp) (args : Args) (us : List Value) (vs : List V) (Q : VK) (E : XK), A.guards = some [] → Room k A → Env0 P w K mg base A outer s H → BindsTo s fd args (ps.zip us) → Vals vs us → sp vs H Q E →
    codeAny (model P w) A (.call (.ref f) args) (CR CX outer P w H s Q E) s
section
variable {P : Program} {w : World} {K : PySem.W.Frag} {mg : Str → Option Value} {base : Heap} {CX : CXT}
theorem FnG.mono {j k : Nat} {f : Addr} {fd : FuncData} {ps : List Str} {sp : Sp} (F : FnG P w K mg base CX j f fd ps sp) (h : j ≤ k) : FnG P w K mg base CX k f fd ps sp :=
  ⟨F.len, fun A outer s H args us vs Q E g hr => F.run A outer s H args us vs Q E g (hr.mono h)⟩
theorem FnOk.g {k : Nat} {f : Addr} {fd : FuncData} {ps : List Str} {sp : Sp} (F : FnOk P w K mg base CX k f fd ps sp) : FnG P w K mg base CX k f fd ps sp :=
  ⟨F.len, fun A outer s H args us vs Q E _ => F.run A outer s H args us vs Q E⟩
/-- a def by its body -/
theorem fnG_of {k : Nat} {f : Addr} {name qual : Str} {params : Arguments} {body : List Stmt} {scope : Scope} {dV kV doc pm cdv ct oc : Value} {an od : Option Addr}
    {osl : Array (Option Value)} {N ps : List Str} {sp : Sp} (lk : K.lookup f = some ⟨oc, od, .func (PySem.W.fnOf name qual params body scope dV kV doc pm an cdv ct), osl⟩) (hcd : PySem.W.codeIn K cdv qual = true) (S : FnScope N ps scope)
    (len : ∀ vs H Q E, sp vs H Q E → vs.length = ps.length)
    (hbody : ∀ (A : Around) (outer : List Env) (s : Shared) (H : Hp) (vs : List V) (Q : VK) (E : XK), A.guards = some [] → Room k (A.deeper (envOfC qual scope s.heap.objs.size f cdv)) → sp vs H Q E →
      ∃ t, PSs (cxOf CX P w K mg base N qual scope f cdv A outer s H E) body t ∧ t { nx := fun _ H' => Q .non H', rt := Q } (start N vs) H) :
    FnG P w K mg base CX (k + 1) f (PySem.W.fnOf name qual params body scope dV kV doc pm an cdv ct) ps sp where
  len := len
  run := fun A outer s H args us vs Q E hgs hr e0 hb r hsp => by
    have up : ∀ b o, base.get? b = some o → s.heap.get? b = some o := fun b o e => (e0.bs b o e).1
    have kin : K.In s.heap := e0.mod.kin.keeps up
    refine codeAny_call_function hr.depth (kin _ _ lk) rfl S.co S.gen rfl (PySem.W.codeRec_of kin hcd) (hb _ _ _ _ ?_)
    refine wpAny_newFunctionEnv_cells S.kind (fun y hy => ?_) fun env he s1 x => ?_
    · rcases S.par y.1 (List.of_mem_zip hy).1 with q | q
      · exact .inl q
      · exact .inr ⟨q, PySem.W.cellsFrom_some _ _ _ (.inl q)⟩
    subst he
    refine ⟨(e0.mod.nolimit.keeps up).keeps x.toInCall.keep, codeAny_func ?_⟩
    obtain ⟨t, ht, hq⟩ := hbody A outer s H vs Q E hgs (hr.deeper _) hsp
    have I := inv_start (CX := CX) (E := E) S hr.hd e0 (len _ _ _ _ hsp) r x
    refine wpAny_mono (ht.run [] s1 (start N vs) H _ I hq) (fun fl s' hs => ?_) fun e s' hs => hs
    match fl, hs with
    | .ret u, ⟨v, σ', H', J, rv, q⟩ => exact ⟨v, H', J.os, J.bare, J.base, J.hok, rv, q⟩
    | .next, ⟨σ', H', J, q⟩ => exact ⟨V.non, H', J.os, J.bare, J.base, J.hok, rfl, q⟩
    | .brk, ⟨_, _, _, q⟩ => exact False.elim q
    | .cont, ⟨_, _, _, q⟩ => exact False.elim q
theorem Fun.okG {x qual : Str} {st : Stmt} {f : Addr} {fd : FuncData} {N ps : List Str} {k : Nat} {sp : Sp} (F : Fun K x qual st f fd) (S : FnScope N ps (defScope st)) (len : ∀ vs H Q E, sp vs H Q E → vs.length = ps.length)
    (hbody : ∀ (cdv : Value) (A : Around) (outer : List Env) (s : Shared) (H : Hp) (vs : List V) (Q : VK) (E : XK), A.guards = some [] → Room k (A.deeper (envOfC qual (defScope st) s.heap.objs.size f cdv)) → sp vs H Q E →
      ∃ t, PSs (cxOf CX0 P w K mg base N qual (defScope st) f cdv A outer s H E).nox (defBody st) t ∧ t { nx := fun _ H' => Q .non H', rt := Q } (start N vs) H) : FnG P w K mg base CX0 (k + 1) f fd ps sp := by
  obtain ⟨oc, od, kV, doc, pm, an, cdv, ct, osl, rfl, lk, hcd⟩ := F.ex
  refine fnG_of lk hcd S len fun A outer s H vs Q E hg hr hsp => ?_
  obtain ⟨t, h, q⟩ := hbody cdv A outer s H vs Q E hg hr hsp
  exact ⟨t, h.nox, q⟩
theorem Fun.okGX {x qual : Str} {st : Stmt} {f : Addr} {fd : FuncData} {N ps : List Str} {k : Nat} {sp : Sp} (F : Fun K x qual st f fd) (S : FnScope N ps (defScope st)) (len : ∀ vs H Q E, sp vs H Q E → vs.length = ps.length)
    (hbody : ∀ (cdv : Value) (A : Around) (outer : List Env) (s : Shared) (H : Hp) (vs : List V) (Q : VK) (E : XK), A.guards = some [] → Room k (A.deeper (envOfC qual (defScope st) s.heap.objs.size f cdv)) → sp vs H Q E →
      ∃ t, PSs (cxOf CX P w K mg base N qual (defScope st) f cdv A outer s H E) (defBody st) t ∧ t { nx := fun _ H' => Q .non H', rt := Q } (start N vs) H) : FnG P w K mg base CX (k + 1) f fd ps sp := by
  obtain ⟨oc, od, kV, doc, pm, an, cdv, ct, osl, rfl, lk, hcd⟩ := F.ex
  exact fnG_of lk hcd S len fun A outer s H vs Q E hg hr hsp => hbody cdv A outer s H vs Q E hg hr hsp
end
section
variable {X : Cx} {CX : CXT} {k : Nat} {f : Addr} {fd : FuncData} {ps : List Str} {sp : Sp} {dvs : List V} {ds : List Value} {E : XK} {x : Str} {p pos : Pos} {e : Expr} {es : List Expr} {t : TA}
theorem run_fnG {pins : List (Addr × Obj)} {σ : St} {H : Hp} {s : Shared} {Q : VK} {us : List Value} {vs : List V} (F : FnG X.prog X.w X.K X.mg X.base CX k f fd ps sp) (hgs : X.A.guards = some []) (hr : Room k X.A) (hb : Binds X.K fd ps ds) (hd : Vals dvs ds) (hx : Passes CX X E)
    (I : Inv X pins σ H s) (r : Vals vs us) (h : sp (vs ++ dvs) H Q E) : wpAny (model X.prog X.w) X.A (call (.ref f) us) (EP X pins σ Q) X.xe s := by
  have r2 := r.append hd
  refine wpAny_call (codeAny_mono (F.run X.A X.stack s H ⟨us, []⟩ (us ++ ds) (vs ++ dvs) Q E hgs hr I.env0 (hb s us I.kIn (r2.length.symm.trans (F.len _ _ _ _ h))) r2 h) fun r s' hq => ?_)
  match r, hq with
  | .error e, hq => exact hx pins σ H s e s' I hq
  | .ok (.ret u), hq => exact I.after hq
  | .ok .next, hq => exact False.elim hq
  | .ok .brk, hq => exact False.elim hq
  | .ok .cont, hq => exact False.elim hq
theorem pe_callG (F : FnG X.prog X.w X.K X.mg X.base CX k f fd ps sp) (hgs : X.A.guards = some []) (hr : Room k X.A) (hg : Gl X x) (hm : X.mg x = some (.ref f)) (hk : PySem.W.keepIn X.K (.ref f) = true) (hb : Binds X.K fd ps ds) (hd : Vals dvs ds) (hx : Passes CX X E)
    (ha : PA X (e :: es) t) (hdb : (x == ("__debug__" : Str)) = false := by decide) (he : starEach (e :: es) X.env = (false, eval e X.env) :: starEach es X.env := by rfl) (hpl : (backTo pos (starEach es X.env)).any (·.1) = false := by rfl) :
    PE X (.Call (.Name x p) (e :: es) [] pos) (tCall sp dvs E t) := by
  refine ⟨fun pins s σ H Q I h => ?_⟩
  refine wpAny_Call_Name_kw (ld_glob I hg hm ?_ hdb)
  exact PySem.W.callWith_K (h₀ := X.base) I.ok.mod.kin hk (thn (ha.run pos pins s σ H _ I h) fun us s1 ⟨vs, H1, I1, r, q⟩ => ⟨I1.kIn, run_fnG F hgs hr hb hd hx I1 r q⟩) he hpl
end
end L2

set_option Elab.async false
set_option linter.all false
set_option maxRecDepth 100000
set_option maxHeartbeats 2000000
namespace L2
open PySem PySem.Spec PyProof.Rows
/-- the law's call, by a promise that holds where no repr is under way -/
theorem law_callG {P : Program} {w : World} {K : PySem.W.Frag} {mg mb : Str → Option Value} {CX : CXT} {k : Nat} {fa a : Addr} {fd : FuncData} {x : Str} {sp : Sp} {s₁ : Shared} {vs : List Value} {ns : List Int}
    (KX : K.In s₁.heap) (hns : s₁.heap.Ns mainGlobals mg) (hb : s₁.heap.Ns builtinsNs mb) (hbb : ∀ x : Str, x ≠ "__name__" → mb x = bootBuiltins x) (hlim : s₁.heap.NoLimit) (hg : s₁.gens = #[])
    (ha : s₁.heap.get? a = some { cls := .type "list", data := .seq vs.toArray }) (hi : IntsAre vs ns) (hl : ns.length ≤ sizeLine) (hr : Room k callerA)
    (F : ∀ base : Heap, K.In base → base.Ns mainGlobals mg → FnG P w K mg base CX k fa fd [x] sp) (hbind : ∀ (s : Shared) (u : Value), BindsTo s fd ⟨[u], []⟩ [(x, u)])
    (hsp : ∀ H : Hp, Only H → SqL K H a (ns.map V.int) → sp [.ref a] H (fun v _ => v = .bl true) fun _ _ _ => False)
    (hCX : ∀ H e s', CX [] H s₁ (fun _ _ _ => False) e s' → False) :
    codeAny (model P w) callerA (.call (.ref fa) ⟨[.ref a], []⟩) (fun r s' => r = .ok (.ret (.bool true)) ∧ OldK s₁.heap s'.heap ∧ s'.os = s₁.os ∧ AllBare s'.gens) s₁ := by
  have rv := vals_ints hi
  -- H: nothing is tracked but the script, perhaps
  have main : ∀ H : Hp, Only H → SqL K H a (ns.map V.int) → HOk P w H s₁.heap → (∀ b, H b ≠ none → b = a ∧ K.lookup a = none) →
      codeAny (model P w) callerA (.call (.ref fa) ⟨[.ref a], []⟩) (fun r s' => r = .ok (.ret (.bool true)) ∧ OldK s₁.heap s'.heap ∧ s'.os = s₁.os ∧ AllBare s'.gens) s₁ := by
    intro H hO hS hok hA
    have nD : ∀ {b : Addr} {o : Obj} {es : Array DictEntry} {ep : Nat}, s₁.heap.get? b = some o → o.data = .dict es ep → H b = none := fun {b o es ep} e d => by
      refine Classical.byContradiction fun n => ?_
      obtain ⟨rfl, _⟩ := hA b n
      rw [ha] at e
      cases e
      exact nomatch d
    have nK : ∀ {b : Addr} {o : Obj}, K.lookup b = some o → H b = none := fun {b o} e => by
      refine Classical.byContradiction fun n => ?_
      obtain ⟨rfl, z⟩ := hA b n
      rw [z] at e
      cases e
    have ns' : ∀ {b : Addr} {m : Str → Option Value}, s₁.heap.Ns b m → (hidT s₁.heap H).Ns b m := fun {b m} ⟨o, es, ep, e, d, r⟩ => ⟨o, es, ep, hidT_get e (nD e d), d, r⟩
    have kin : K.In (hidT s₁.heap H) := fun b o e => hidT_get (KX b o e) (nK e)
    have md : Mod K mg (hidT s₁.heap H) := by
      obtain ⟨mc, h1, h2⟩ := hlim
      exact ⟨kin, ns' hns, ⟨mb, ns' hb, hbb⟩, ⟨mc, ns' h1, h2⟩⟩
    have e0 : Env0 P w K mg (hidT s₁.heap H) callerA [] s₁ H := ⟨rfl, md, fun b o e => of_hidT e, Nat.le_of_eq (hidT_size _ _), trivial, fun b z => by simp [frs] at z, hok, .of_eq hg⟩
    refine codeAny_mono ((F _ kin (ns' hns)).run callerA [] s₁ H ⟨[.ref a], []⟩ [.ref a] [.ref a] _ _ rfl hr e0 (hbind s₁ (.ref a)) (.cons rfl .nil) (hsp H hO hS)) fun r s' h => ?_
    match r, h with
    | .error e, h => exact (hCX H e s' h).elim
    | .ok .next, h => exact False.elim h
    | .ok .brk, h => exact False.elim h
    | .ok .cont, h => exact False.elim h
    | .ok (.ret u), ⟨v, H', os, bare, un, hok', r', q⟩ =>
      obtain rfl : v = .bl true := q
      obtain rfl : u = Value.bool true := r'
      refine ⟨rfl, OldK.of_keep fun b o e => ?_, os, bare⟩
      cases q : H b with
      | none => exact un.keep b o e q (by simp [frs]) (by simp)
      | some u =>
        rcases hO b with z | ⟨ob, xs, z⟩
        · rw [q] at z; cases z
        · have e1 := (hok b _ z).1
          rw [e] at e1
          cases e1
          exact (hok' b _ (un.frzs b _ _ z)).1
  cases hk : K.lookup a with
  | some o =>
    have e := KX a o hk
    rw [ha] at e
    cases e
    refine main (fun _ => none) (fun _ => .inl rfl) (.inr ⟨_, vs.toArray, _, hk, rfl, rfl, rfl, by rw [List.size_toArray, hi.length]; exact hl, by simpa using rv⟩) (fun b u z => nomatch z) fun b z => absurd rfl z
  | none =>
    refine main (fun b => if b = a then some (.frz { cls := .type "list", data := .seq vs.toArray } (.lst (ns.map V.int))) else none) (fun b => ?_) (.inl (.inr ⟨_, if_pos rfl⟩)) (fun b u z => ?_) fun b z => ⟨?_, hk⟩
    · by_cases hb : b = a
      · exact .inr ⟨_, _, if_pos hb⟩
      · exact .inl (if_neg hb)
    · by_cases hb : b = a
      · have z' := (if_pos hb).symm.trans z
        cases z'
        subst hb
        exact ⟨ha, by rw [List.length_map]; exact hl, vs, _, rv, ha⟩
      · exact absurd ((if_neg hb).symm.trans z) (fun y => nomatch y)
    · exact Classical.byContradiction fun hb => z (if_neg hb)
/-- the goal that k_head leaves, from the law's promise -/
theorem walk_ofG {l : PySem.W.OpenLaw} {n k : Nat} {q : Program} {loose : List Str} {XP : (Str → Option Value) → Heap → Prop} {YP : World → Heap → Prop} {d : DefRec} {K : Params → PySem.W.Frag} {sp : PySem.W.Frag → Sp} {x : Str}
    (hn : l.most = some n) (hn2 : n ≤ sizeLine) (hdf : d.params.defaults = []) (hr : Room k callerA)
    (hY : ∀ (w : World) (h : Heap), YP w h → (K w.params).In h)
    (F : ∀ (w : World) (mg : Str → Option Value) (fa : Addr) (h : Heap), (K w.params).In h → h.Ns mainGlobals mg → mg d.name = some (.ref fa) →
      ∃ fd : FuncData, (∀ (s : Shared) (u : Value), BindsTo s fd ⟨[u], []⟩ [(x, u)]) ∧
        ∀ base : Heap, (K w.params).In base → base.Ns mainGlobals mg → FnG l.prog w (K w.params) mg base CX0 k fa fd [x] (sp (K w.params)))
    (hsp : ∀ (K : PySem.W.Frag) (H : Hp) (a : Addr) (ns : List Int), ns.length ≤ n → Only H → SqL K H a (ns.map V.int) → sp K [.ref a] H (fun v _ => v = .bl true) fun _ _ _ => False) :
    PySem.W.WalkO q loose XP YP l.row.toRowW d [] (fun f vs => PySem.call f vs) := by
  refine Att.attach_call hn hdf fun w s₀ s₁ mg mb fa o pm cd doc a vs ns G Y ho hd hcd hmg hobj hints hlen hg => ?_
  have KX := hY w _ Y
  obtain ⟨fd, hb, hF⟩ := F w mg fa _ KX G.T.g hmg
  exact law_callG KX G.T.g G.T.b G.T.builtins G.T.nolimit hg hobj hints (Nat.le_trans hlen hn2) hr hF hb (fun H hO hS => hsp _ H a ns hlen hO hS) fun H e s' z => z

/-! ### repr of data -/
section
variable {X : Cx}
/-- repr(x), x data of any depth -/
def rRepr (K : PySem.W.Frag) : List V → Hp → VK → Prop := fun xs H Q => ∃ v d, xs = [v] ∧ Dp K H v d ∧ d.showable = true ∧ d.hasDict = false ∧ d.depth ≤ 60 ∧ d.shown.length ≤ sizeLine ∧ Q (.str d.shown) H
theorem call_reprD (hg : X.A.guards = some []) (hu : X.A.units + 64 < cLine) : CallR X (.builtin "repr") (rRepr X.K) := by
  intro pins s σ H xs us Q I r h
  obtain ⟨v, d, rfl, hd, hs, hn, hz, hl, q⟩ := h
  cases r with
  | cons rv rr =>
    rename_i u us'
    cases rr
    obtain ⟨as, rd⟩ := Dp.reads I d v u hd rv
    cases hd with
    | non =>
      cases rv
      rw [PyData.shown_none] at q
      exact PySem.P.repr_of_none ⟨.str _, H, I.tok _, ⟨_, rfl⟩, q⟩
    | bl b =>
      cases rv
      rw [PyData.shown_bool] at q
      exact PySem.P.repr_of_bool ⟨.str _, H, I.tok _, ⟨_, rfl⟩, by cases b <;> exact q⟩
    | int i =>
      obtain ⟨t, rfl⟩ := rv
      rw [PyData.shown_int] at q
      have hs' : i.natAbs.log2 < 1920 := of_decide_eq_true (by simpa only [PyData.showable] using hs)
      exact PySem.P.repr_of_int hs' ⟨.str _, H, I.tok _, ⟨_, rfl⟩, q⟩
    | str x =>
      obtain ⟨t, rfl⟩ := rv
      rw [PyData.shown_str] at q hl
      exact PySem.P.repr_of_str ⟨.str _, H, I.tok _, ⟨_, rfl⟩, q⟩ hl
    | lst hS hA =>
      cases rv
      exact repr_of_reads' rd hs (PyData.noDict_hsm hn) hg (by omega) (fun _ _ e => e) (fun h' u tk k => ⟨.str _, H, I.kept (t' := tk) k, ⟨_, rfl⟩, q⟩) hl
    | tup hS hA =>
      cases rv
      exact repr_of_reads' rd hs (PyData.noDict_hsm hn) hg (by omega) (fun _ _ e => e) (fun h' u tk k => ⟨.str _, H, I.kept (t' := tk) k, ⟨_, rfl⟩, q⟩) hl
end
end L2

set_option Elab.async false
set_option linter.all false
set_option maxRecDepth 100000
set_option maxHeartbeats 2000000
/-! GD: defs by their names. -/
namespace L2
open PySem PySem.Spec PyProof.Rows
/-- a def of the text stands under its name -/
def Def (K : PySem.W.Frag) (mg : Str → Option Value) (x : Str) (st : Stmt) : Prop := ∃ f fd, Fun K x x st f fd ∧ mg x = some (.ref f)
theorem def_mk {K : PySem.W.Frag} {h : Heap} {mg : Str → Option Value} {x : Str} {st : Stmt} {f : Addr} {oc : Value} {od an : Option Addr} {osl : Array (Option Value)} {kV doc pm cdv ct : Value} (X : K.In h) (G : h.Ns mainGlobals mg)
    (a : PySem.W.nsIn K mainGlobals x = some (some (.ref f))) (l : K.lookup f = some ⟨oc, od, .func (PySem.W.fnOf x x (defArgs st) (defBody st) (defScope st) .none kV doc pm an cdv ct), osl⟩)
    (c : PySem.W.codeIn K cdv x = true) (k : PySem.W.keepIn K (.ref f) = true) : Def K mg x st := ⟨f, _, fun_mk (st := st) l c k, PySem.W.mg_of X G a⟩
/-- the name x holds a def that keeps the promise sp -/
def HasFn (P : Program) (w : World) (K : PySem.W.Frag) (mg : Str → Option Value) (base : Heap) (CX : CXT) (k : Nat) (x : Str) (ps : List Str) (sp : Sp) : Prop :=
  ∃ f fd, FnOk P w K mg base CX k f fd ps sp ∧ mg x = some (.ref f) ∧ PySem.W.keepIn K (.ref f) = true ∧ Binds K fd ps []
def HasG (P : Program) (w : World) (K : PySem.W.Frag) (mg : Str → Option Value) (base : Heap) (CX : CXT) (k : Nat) (x : Str) (ps : List Str) (sp : Sp) : Prop :=
  ∃ f fd, FnG P w K mg base CX k f fd ps sp ∧ mg x = some (.ref f) ∧ PySem.W.keepIn K (.ref f) = true ∧ Binds K fd ps []
def tCallO (sp : Sp) (E : XK) (t : TA) : TE := fun σ H Q => t σ H fun vs H1 => sp vs H1 Q E
section
variable {X : Cx} {CX : CXT} {j k : Nat} {ps : List Str} {sp : Sp} {E : XK} {x : Str} {p pos : Pos} {e : Expr} {es : List Expr} {t : TA}
theorem pe_callO (O : HasFn X.prog X.w X.K X.mg X.base CX k x ps sp) (hr : Room j X.A) (hg : Gl X x) (hx : Passes CX X E) (ha : PA X (e :: es) t) (hjk : k ≤ j := by decide)
    (hdb : (x == ("__debug__" : Str)) = false := by decide) (he : starEach (e :: es) X.env = (false, eval e X.env) :: starEach es X.env := by rfl) (hpl : (backTo pos (starEach es X.env)).any (·.1) = false := by rfl) :
    PE X (.Call (.Name x p) (e :: es) [] pos) (tCallO sp E t) := by
  obtain ⟨f, fd, F, hm, hk, hb⟩ := O
  have q := pe_call (E := E) (dvs := []) (ds := []) (p := p) (pos := pos) F (hr.mono hjk) hg hm hk hb .nil hx ha hdb he hpl
  refine ⟨fun pins s σ H Q I h => q.run pins s σ H Q I ?_⟩
  have e : (fun (vs : List V) H1 => sp (vs ++ []) H1 Q E) = fun vs H1 => sp vs H1 Q E := by
    funext vs H1
    rw [List.append_nil]
  show t σ H (fun vs H1 => sp (vs ++ []) H1 Q E)
  rw [e]
  exact h
theorem pe_callOG (O : HasG X.prog X.w X.K X.mg X.base CX k x ps sp) (hgs : X.A.guards = some []) (hr : Room j X.A) (hg : Gl X x) (hx : Passes CX X E) (ha : PA X (e :: es) t) (hjk : k ≤ j := by decide)
    (hdb : (x == ("__debug__" : Str)) = false := by decide) (he : starEach (e :: es) X.env = (false, eval e X.env) :: starEach es X.env := by rfl) (hpl : (backTo pos (starEach es X.env)).any (·.1) = false := by rfl) :
    PE X (.Call (.Name x p) (e :: es) [] pos) (tCallO sp E t) := by
  obtain ⟨f, fd, F, hm, hk, hb⟩ := O
  have q := pe_callG (E := E) (dvs := []) (ds := []) (p := p) (pos := pos) F hgs (hr.mono hjk) hg hm hk hb .nil hx ha hdb he hpl
  refine ⟨fun pins s σ H Q I h => q.run pins s σ H Q I ?_⟩
  have e : (fun (vs : List V) H1 => sp (vs ++ []) H1 Q E) = fun vs H1 => sp vs H1 Q E := by
    funext vs H1
    rw [List.append_nil]
  show t σ H (fun vs H1 => sp (vs ++ []) H1 Q E)
  rw [e]
  exact h
end
end L2

set_option Elab.async false
set_option linter.all false
set_option maxRecDepth 100000
set_option maxHeartbeats 2000000
/-! XW: an error class's facts, asked of the written part by one check. -/
namespace L2
open PySem PySem.Spec PyProof.Rows
/-- an own error class by its name -/
structure Xc (P : Program) (w : World) (K : PySem.W.Frag) (mg : Str → Option Value) (x : Str) (C : Addr) (fs : List Str) : Prop where
  gC : mg x = some (.ref C)
  kC : PySem.W.keepIn K (.ref C) = true
  mkc : PySem.XS.MkC P w K mg C fs
  isb : isB K C = true
  xf : XfC K C
  nf : ∀ f ∈ fs, PySem.W.findIn K (.ref C) f = some none
  ra : PySem.W.subIn K (.ref C) (.type "BaseException") = some true ∧ PySem.W.typeIn K (.ref C) = some (.type "type")
def ownB (K : PySem.W.Frag) (C fI : Addr) (newId B initId : String) (bmB : List Value) (fs : List Str) : Bool :=
  PySem.W.excInitIn K C bmB newId && (PySem.W.excOver K C bmB && (PySem.W.hasDictIn K C && (decide (PySem.W.findIn K (.ref C) "__setattr__" = some (some (.builtin "object.__setattr__"))) && (decide (PySem.W.findIn K (.ref C) "__init__" = some (some (.ref fI))) && (PySem.W.isFn K (.ref fI) && (PySem.W.keepIn K (.ref C) &&
  (decide (PySem.W.ks_superIn K C C "__init__" = some (some (.builtin initId))) && (decide (PySem.W.mroIn K C (.ref C) = some true) && (decide (PySem.W.subIn K (.ref C) (.type B) = some true) && (decide (PySem.W.nsIn K cStatics "thirdparty.any" = some none) && (decide (PySem.W.nsIn K mainGlobals "super" = some none) && (isB K C && (xfB K C && (fs.all (fun f => decide (PySem.W.findIn K (.ref C) f = some none)) && decide (PySem.W.typeIn K (.ref C) = some (.type "type"))))))))))))))))
section
variable {P : Program} {w : World} {K : PySem.W.Frag} {h : Heap} {mg : Str → Option Value} {x qual : Str} {st : Stmt} {C fI cc cda : Addr} {Bn newId iN B initId : String} {bmN bmB : List Value} {fs : List Str}
variable {oc doc pm ct cl ccl : Value} {od an cld cdd : Option Addr} {osl csl ccs : Array (Option Value)} {vs : Array Value} {file : Str} {tf : Tok}
theorem own_of {params : Arguments} {body : List Stmt} {scope : Scope} (b : ownB K C fI newId B initId bmB fs = true) (top : (P.main.scope.names.lookup ("super" : Str)).isSome = false)
    (l : K.lookup fI = some ⟨oc, od, .func (PySem.W.ksFn "__init__" qual params body scope .none .none doc pm an (.ref cda) ct cc), osl⟩) (cd : PySem.W.codeIn K (.ref cda) qual = true)
    (lc : K.lookup cc = some ⟨cl, cld, .cell (some (.ref C)), csl⟩) (la : K.lookup cda = some ⟨ccl, cdd, .fields vs, ccs⟩) (hv : vs[2]? = some (.str file tf)) (hf : ((P.main.file : Str) == file) = true) :
    PySem.XS.Own P K C fI cc cda newId B initId bmB qual params body scope ∧ PySem.W.keepIn K (.ref C) = true ∧ isB K C = true ∧ XfC K C ∧ (∀ f ∈ fs, PySem.W.findIn K (.ref C) f = some none) ∧ PySem.W.nsIn K mainGlobals "super" = some none ∧ PySem.W.typeIn K (.ref C) = some (.type "type") := by
  obtain ⟨b1, b⟩ := Bool.and_eq_true_iff.mp b
  obtain ⟨b2, b⟩ := Bool.and_eq_true_iff.mp b
  obtain ⟨b3, b⟩ := Bool.and_eq_true_iff.mp b
  obtain ⟨b4, b⟩ := Bool.and_eq_true_iff.mp b
  obtain ⟨b5, b⟩ := Bool.and_eq_true_iff.mp b
  obtain ⟨b6, b⟩ := Bool.and_eq_true_iff.mp b
  obtain ⟨b7, b⟩ := Bool.and_eq_true_iff.mp b
  obtain ⟨b8, b⟩ := Bool.and_eq_true_iff.mp b
  obtain ⟨b9, b⟩ := Bool.and_eq_true_iff.mp b
  obtain ⟨b10, b⟩ := Bool.and_eq_true_iff.mp b
  obtain ⟨b11, b⟩ := Bool.and_eq_true_iff.mp b
  obtain ⟨b12, b⟩ := Bool.and_eq_true_iff.mp b
  obtain ⟨b13, b⟩ := Bool.and_eq_true_iff.mp b
  obtain ⟨b14, b⟩ := Bool.and_eq_true_iff.mp b
  obtain ⟨b15, b16⟩ := Bool.and_eq_true_iff.mp b
  exact ⟨⟨b1, b2, b3, of_decide_eq_true b4, of_decide_eq_true b5, b6, b7, of_decide_eq_true b8, of_decide_eq_true b9, of_decide_eq_true b10, of_decide_eq_true b11, ⟨_, _, _, lc⟩, ⟨_, _, _, _, _, _, la, hv, hf⟩, top, ⟨_, _, _, _, _, _, _, l, cd⟩⟩, b7, b13, xfB_ok b14,
    fun f hf => of_decide_eq_true (List.all_eq_true.mp b15 f hf), of_decide_eq_true b12, of_decide_eq_true b16⟩
open PySem.XS
variable {txt : Str} {j : Nat} {a0 a1 a2 p0 p1 p2 p3 p4 p5 q1 q2 q3 q4 r1 r2 r3 r4 : Pos}
theorem xc0 (T : Bas Bn newId iN bmN B initId bmB) (X : K.In h) (G : h.Ns mainGlobals mg) (aC : PySem.W.nsIn K mainGlobals x = some (some (.ref C)))
    (l : K.lookup fI = some ⟨oc, od, .func (PySem.W.ksFn "__init__" qual (defArgs st) (defBody st) (defScope st) .none .none doc pm an (.ref cda) ct cc), osl⟩)
    (lc : K.lookup cc = some ⟨cl, cld, .cell (some (.ref C)), csl⟩) (la : K.lookup cda = some ⟨ccl, cdd, .fields vs, ccs⟩) (cd : PySem.W.codeIn K (.ref cda) qual = true) (b : ownB K C fI newId B initId bmB [] = true)
    (hv : vs[2]? = some (.str file tf)) (hf : ((P.main.file : Str) == file) = true) (top : (P.main.scope.names.lookup ("super" : Str)).isSome = false)
    (e1 : defArgs st = iArgs [aSelf a0]) (e2 : defBody st = [iSup txt j p0 p1 p2 p3 p4 p5]) (e3 : defScope st = iSc []) (hp : (p2.endLine == p4.line) = true) : Xc P w K mg x C [] := by
  rw [e1, e2, e3] at l
  obtain ⟨Z, k, i, f, n, s, ty⟩ := own_of b top l cd lc la hv hf
  exact ⟨PySem.W.mg_of X G aC, k, mkC0 T Z (PySem.W.mg_none_of X G s) hp, i, f, n, f.exC, ty⟩
theorem xc1 {f : Str} (T : Bas Bn newId iN bmN B initId bmB) (X : K.In h) (G : h.Ns mainGlobals mg) (aC : PySem.W.nsIn K mainGlobals x = some (some (.ref C)))
    (l : K.lookup fI = some ⟨oc, od, .func (PySem.W.ksFn "__init__" qual (defArgs st) (defBody st) (defScope st) .none .none doc pm an (.ref cda) ct cc), osl⟩)
    (lc : K.lookup cc = some ⟨cl, cld, .cell (some (.ref C)), csl⟩) (la : K.lookup cda = some ⟨ccl, cdd, .fields vs, ccs⟩) (cd : PySem.W.codeIn K (.ref cda) qual = true) (b : ownB K C fI newId B initId bmB [f] = true)
    (hv : vs[2]? = some (.str file tf)) (hf : ((P.main.file : Str) == file) = true) (top : (P.main.scope.names.lookup ("super" : Str)).isSome = false)
    (e1 : defArgs st = iArgs [aSelf a0, aPar f a1]) (e2 : defBody st = [iSup txt j p0 p1 p2 p3 p4 p5, iPut f q1 q2 q3 q4]) (e3 : defScope st = iSc [f]) (hp : (p2.endLine == p4.line) = true)
    (f1 : f ≠ "self") (f2 : f ≠ "super") (f3 : f ≠ "__class__") (f4 : (f == ("__debug__" : Str)) = false) (hb : Bd qual (iArgs [aSelf a0, aPar f a1]) [iSup txt j p0 p1 p2 p3 p4 p5, iPut f q1 q2 q3 q4] (iSc [f]) [f]) : Xc P w K mg x C [f] := by
  rw [e1, e2, e3] at l
  obtain ⟨Z, k, i, xf, n, s, ty⟩ := own_of b top l cd lc la hv hf
  exact ⟨PySem.W.mg_of X G aC, k, mkC1 T Z (PySem.W.mg_none_of X G s) hp f1 f2 f3 f4 (n f (by simp)) hb, i, xf, n, xf.exC, ty⟩
theorem xc2 {f g : Str} (T : Bas Bn newId iN bmN B initId bmB) (X : K.In h) (G : h.Ns mainGlobals mg) (aC : PySem.W.nsIn K mainGlobals x = some (some (.ref C)))
    (l : K.lookup fI = some ⟨oc, od, .func (PySem.W.ksFn "__init__" qual (defArgs st) (defBody st) (defScope st) .none .none doc pm an (.ref cda) ct cc), osl⟩)
    (lc : K.lookup cc = some ⟨cl, cld, .cell (some (.ref C)), csl⟩) (la : K.lookup cda = some ⟨ccl, cdd, .fields vs, ccs⟩) (cd : PySem.W.codeIn K (.ref cda) qual = true) (b : ownB K C fI newId B initId bmB [f, g] = true)
    (hv : vs[2]? = some (.str file tf)) (hf : ((P.main.file : Str) == file) = true) (top : (P.main.scope.names.lookup ("super" : Str)).isSome = false)
    (e1 : defArgs st = iArgs [aSelf a0, aPar f a1, aPar g a2]) (e2 : defBody st = [iSup txt j p0 p1 p2 p3 p4 p5, iPut f q1 q2 q3 q4, iPut g r1 r2 r3 r4]) (e3 : defScope st = iSc [f, g]) (hp : (p2.endLine == p4.line) = true)
    (f1 : f ≠ "self") (f2 : f ≠ "super") (f3 : f ≠ "__class__") (f4 : (f == ("__debug__" : Str)) = false) (g1 : g ≠ "self") (g2 : g ≠ "super") (g3 : g ≠ "__class__") (g4 : (g == ("__debug__" : Str)) = false) (fg : f ≠ g)
    (hb : Bd qual (iArgs [aSelf a0, aPar f a1, aPar g a2]) [iSup txt j p0 p1 p2 p3 p4 p5, iPut f q1 q2 q3 q4, iPut g r1 r2 r3 r4] (iSc [f, g]) [f, g]) : Xc P w K mg x C [f, g] := by
  rw [e1, e2, e3] at l
  obtain ⟨Z, k, i, xf, n, s, ty⟩ := own_of b top l cd lc la hv hf
  exact ⟨PySem.W.mg_of X G aC, k, mkC2 T Z (PySem.W.mg_none_of X G s) hp f1 f2 f3 f4 (n f (by simp)) g1 g2 g3 g4 (n g (by simp)) fg hb, i, xf, n, xf.exC, ty⟩
end
end L2

set_option Elab.async false
set_option linter.all false
set_option maxRecDepth 100000
set_option maxHeartbeats 4000000
namespace Law
open PySem L2
def top (i : Nat) : Stmt := PySem.Challenge.pw_hadnot_k01_errors.main.body.getD i (.Pass ⟨0, 0, 0, 0⟩)
/-! ### the source of draws -/
abbrev s_feed : Stmt := top 17
abbrev s_take : Stmt := top 18
abbrev s_same : Stmt := top 19
theorem sc_feed : FnScope ["_law_script", "_law_k", "_law_cell", "_law_own"] ["_law_script", "_law_k"] (defScope s_feed) := ⟨rfl, rfl, rfl, by decide +kernel, rfl, by decide +kernel, by decide +kernel⟩
theorem sc_take : FnScope ["_law_feed_here", "_law_many", "_law_digit", "_law_one"] ["_law_feed_here", "_law_many"] (defScope s_take) := ⟨rfl, rfl, rfl, by decide +kernel, rfl, by decide +kernel, by decide +kernel⟩
theorem sc_same : FnScope ["_law_one", "_law_other"] ["_law_one", "_law_other"] (defScope s_same) := ⟨rfl, rfl, rfl, by decide +kernel, rfl, by decide +kernel, by decide +kernel⟩
structure Blt (mg : Str → Option Value) : Prop where
  n_len : mg "len" = none
  n_abs : mg "abs" = none
  n_repr : mg "repr" = none
def spFeed (K : PySem.W.Frag) : Sp := fun vs H Q _ => ∃ (a : Addr) (ns : List Int) (k : Int), vs = [.ref a, .int k] ∧ SqL K H a (ns.map V.int) ∧ ns.length ≤ 63 ∧ 0 ≤ k ∧ k < 1000 ∧
  ∀ p own st, H p = none → 0 ≤ own → 0 < st → st < 4294967296 → Q (.ref p) (upd H p (.lst [.int own, .int st]))
def spTake : Sp := fun vs H Q _ => ∃ (p : Addr) (own st many : Int), vs = [.ref p, .int many] ∧ H p = some (.lst [.int own, .int st]) ∧ 0 ≤ own ∧ 0 < st ∧ st < 4294967296 ∧ 0 < many ∧ many < 18446744073709551616 ∧
  ∀ d own' st', 0 ≤ d → d < many → 0 ≤ own' → 0 < st' → st' < 4294967296 → Q (.int d) (upd H p (.lst [.int own', .int st']))
/-- two data: whether their texts are equal -/
def spSame (K : PySem.W.Frag) : Sp := fun vs H Q _ => ∃ (x y : V) (d e : PyData), vs = [x, y] ∧ (Dp K H x d ∧ d.showable = true ∧ d.hasDict = false ∧ d.depth ≤ 60 ∧ d.shown.length ≤ sizeLine) ∧ (Dp K H y e ∧ e.showable = true ∧ e.hasDict = false ∧ e.depth ≤ 60 ∧ e.shown.length ≤ sizeLine) ∧
  Q (.bl (decide (V.str d.shown = V.str e.shown))) H
section
variable {P : Program} {w : World} {K : PySem.W.Frag} {mg : Str → Option Value} {base : Heap}
theorem mod_lt' (a : Int) {b c : Int} (h : 0 < b) (hc : b ≤ c) : 0 ≤ a % b ∧ a % b < c := ⟨Int.emod_nonneg _ (by omega), Int.lt_of_lt_of_le (Int.emod_lt_of_pos _ h) hc⟩
theorem cmul_l {i j : Int} (h1 : -(2 ^ 64) < i) (h2 : i < 2 ^ 64) : CMul i j := .inl ⟨h1, h2⟩
theorem cmul_r {i j : Int} (h1 : -(2 ^ 64) < j) (h2 : j < 2 ^ 64) : CMul i j := .inr ⟨h1, h2⟩
theorem cdivW {i j : Int} (h : 0 < j) (h2 : j < 18446744073709551616) : CDivW i j := wide_div (b := 64) h (by omega) (by decide) (by decide)
theorem ok_take (D : Def K mg "_law_take" s_take) : HasFn P w K mg base CX0 1 "_law_take" ["_law_feed_here", "_law_many"] spTake := by
  obtain ⟨f, fd, F, hm⟩ := D
  refine ⟨f, fd, F.ok sc_take (fun vs H Q E h => ?_) (fun cdv A outer s H vs Q E hr h => ?_), hm, F.kp, F.binds fun _ _ _ _ _ _ us hl => match us, hl with | [_, _], _ => rfl⟩
  · obtain ⟨p, own, st, many, rfl, _⟩ := h
    rfl
  obtain ⟨p, own, st, many, rfl, hp, h1, h2, h3, h4, h5, k⟩ := h
  refine ⟨_, (pss_cons (ps_if (pt_cmpR op_gt (pe_ix ix_list (pv 0) pe_int (fun _ _ => rfl)) pe_int (nomark _))
  (pss_cons (ps_set (i := 2) sc_take.nd rfl (Or.inl rfl) (pe_op op_mod (pe_ix ix_list (pv 0) pe_int (fun _ _ => rfl)) (pv 1)))
    (pss_cons (ps_asg (pe_op op_fdivW (pe_ix ix_list (pv 0) pe_int (fun _ _ => rfl)) (pv 1)) (pg_sub (pv 0) pe_int set_list))
    (pss_one (ps_ret (pv 2)))))
  pss_nil)
  (pss_cons (ps_set (i := 3) sc_take.nd rfl (Or.inl rfl) (pe_op op_mod (pe_op op_mul (pe_ix ix_list (pv 0) pe_int (fun _ _ => rfl)) pe_int) pe_int))
  (pss_cons (ps_asg (pe_op op_add (pe_op op_mod (pe_op op_add (pe_op op_mul (pv 3) pe_int) pe_int) pe_int) pe_int) (pg_sub (pv 0) pe_int set_list))
  (pss_one (ps_ret (pe_op op_mod (pe_op op_fdivW (pe_op op_add (pe_op op_mul (pv 3) pe_int) (pe_ix ix_list (pv 0) pe_int (fun _ _ => rfl))) pe_int) (pv 1))))))), ?_⟩
  refine ⟨_, rfl, p, _, 0, _, rfl, rfl, SqL.of hp, rfl, _, _, rfl, rfl, _, rfl, ite2 (fun c => ?_) (fun c => ?_)⟩
  · refine ⟨_, rfl, p, _, 0, _, rfl, rfl, SqL.of hp, rfl, _, rfl, _, _, rfl, rfl, h4, ?_⟩
    refine ⟨_, rfl, p, _, 0, _, rfl, rfl, SqL.of hp, rfl, _, rfl, _, _, rfl, rfl, cdivW h4 h5, _, rfl, p, _, 0, 0, rfl, rfl, hp, rfl, ?_⟩
    refine ⟨_, rfl, k _ _ _ (mod_lt' own h4 (Int.le_refl _)).1 (mod_lt' own h4 (Int.le_refl _)).2 (Int.ediv_nonneg h1 (by omega)) h2 h3⟩
  · refine ⟨_, rfl, p, _, 1, _, rfl, rfl, SqL.of hp, rfl, _, _, rfl, rfl, cmul_r (by decide) (by decide), _, _, rfl, rfl, (by decide : (0 : Int) < 2147483647), ?_⟩
    have b1 := mod_lt' (st * 48271) (b := 2147483647) (c := 2147483647) (by decide) (by decide)
    refine ⟨_, rfl, _, _, rfl, rfl, cmul_r (by decide) (by decide), _, _, rfl, rfl, _, _, rfl, rfl, (by decide : (0 : Int) < 2147483399), _, _, rfl, rfl, _, rfl, p, _, 1, 1, rfl, rfl, hp, rfl, ?_⟩
    have b2 := mod_lt' (st * 48271 % 2147483647 * 40692 + 12345) (b := 2147483399) (c := 2147483399) (by decide) (by decide)
    refine ⟨_, rfl, _, _, rfl, rfl, cmul_r (by decide) (by decide), _, rfl, p, _, 1, _, rfl, rfl, SqL.of upd_same, rfl, _, _, rfl, rfl, _, _, rfl, rfl, cdivW (by decide) (by decide), _, rfl, _, _, rfl, rfl, h4, ?_⟩
    exact k _ _ _ (mod_lt' _ h4 (Int.le_refl _)).1 (mod_lt' _ h4 (Int.le_refl _)).2 h1 (by omega) (by omega)
theorem ok_feed (D : Def K mg "_law_feed" s_feed) (T : Blt mg) : HasFn P w K mg base CX0 1 "_law_feed" ["_law_script", "_law_k"] (spFeed K) := by
  obtain ⟨f, fd, F, hm⟩ := D
  refine ⟨f, fd, F.ok sc_feed (fun vs H Q E h => ?_) (fun cdv A outer s H vs Q E hr h => ?_), hm, F.kp, F.binds fun _ _ _ _ _ _ us hl => match us, hl with | [_, _], _ => rfl⟩
  · obtain ⟨a, ns, j, rfl, _⟩ := h
    rfl
  obtain ⟨a, ns, j, rfl, hS, hl, h1, h2, k⟩ := h
  refine ⟨_, (pss_cons (ps_set (i := 2) sc_feed.nd rfl (Or.inl rfl) (pe_op op_add (pe_op op_mul pe_int (pv 1)) pe_int))
  (pss_cons (ps_if (pt_cmpR op_lt (pv 1) (pe_callB call_len_seq (by rfl) T.n_len (by decide +kernel) (pa_cons (pv 0) pa_nil)) (nomark _))
  (pss_one (ps_set (i := 2) sc_feed.nd rfl (Or.inl rfl) (pe_callB call_abs (by rfl) T.n_abs (by decide +kernel) (pa_cons (pe_ix ix_list (pv 0) (pv 1) (fun _ _ => rfl)) pa_nil))))
  (pss_one (ps_if (pt_cmpR op_gt (pe_callB call_len_seq (by rfl) T.n_len (by decide +kernel) (pa_cons (pv 0) pa_nil)) pe_int (nomark _))
    (pss_one (ps_set (i := 2) sc_feed.nd rfl (Or.inl rfl) (pe_op op_add (pe_op op_mul (pe_op op_mod (pe_callB call_abs (by rfl) T.n_abs (by decide +kernel) (pa_cons (pe_ix ix_list (pv 0) (pe_op op_mod (pv 1) (pe_callB call_len_seq (by rfl) T.n_len (by decide +kernel) (pa_cons (pv 0) pa_nil))) (fun _ _ => rfl)) pa_nil)) pe_int) pe_int) (pe_op op_mul pe_int (pv 1)))))
    pss_nil)))
  (pss_cons (ps_set (i := 3) sc_feed.nd rfl (Or.inl rfl) pe_int)
  (pss_cons (ps_if (pt_cmpR op_ge (pv 2) (pe_op op_pow pe_int pe_int) (nomark _))
  (pss_one (ps_set (i := 3) sc_feed.nd rfl (Or.inl rfl) (pv 2)))
  pss_nil)
  (pss_one (ps_ret (pe_lst (pa_cons (pv 3) (pa_cons (pe_op op_add (pe_op op_mod (pe_op op_add (pe_op op_mul (pe_op op_mod (pv 2) pe_int) pe_int) (pe_op op_mul pe_int (pv 1))) pe_int) pe_int) pa_nil))))))))), ?_⟩
  have fin : ∀ c : Int, 0 ≤ c → ∀ t : Option V, (tSeq (tAsg (tC (.int 0)) (gName 3)) (tSeq (tIfS (tTest (tOp (rI0 fun i j => .bl (decide (j ≤ i))) (tVar 2) (tOp (rI CPow fun i j => .int (i ^ j.toNat)) (tC (.int 10)) (tC (.int 18))))) (tAsg (tVar 2) (gName 3)) tNext)
      (tRet (tLst (tCons (tVar 3) (tCons (tOp (rI0 fun i j => .int (i + j)) (tOp (rI (fun _ j => 0 < j) fun i j => .int (i % j)) (tOp (rI0 fun i j => .int (i + j)) (tOp (rI CMul fun i j => .int (i * j)) (tOp (rI (fun _ j => 0 < j) fun i j => .int (i % j)) (tVar 2) (tC (.int 2147483629))) (tC (.int 48271))) (tOp (rI CMul fun i j => .int (i * j)) (tC (.int 50021)) (tVar 1))) (tC (.int 2147483629))) (tC (.int 1))) tNil))))))
      { nx := fun _ H' => Q .non H', rt := Q } [some (.ref a), some (.int j), some (.int c), t] H := by
    intro c hc t
    have bc := mod_lt' (c % 2147483629 * 48271 + 50021 * j) (b := 2147483629) (c := 2147483629) (by decide) (by decide)
    refine ⟨_, rfl, _, _, rfl, rfl, ⟨by decide, by decide, by decide⟩, _, _, rfl, rfl, _, rfl, ite2 (fun e => ?_) (fun e => ?_)⟩
    · refine ⟨_, rfl, _, rfl, _, rfl, _, _, rfl, rfl, (by decide : (0 : Int) < 2147483629), _, _, rfl, rfl, cmul_r (by decide) (by decide), _, rfl, _, _, rfl, rfl, cmul_l (by decide) (by decide), _, _, rfl, rfl, _, _, rfl, rfl, (by decide : (0 : Int) < 2147483629), _, _, rfl, rfl, by show 2 ≤ sizeLine; decide, fun p hp => ?_⟩
      exact k p c _ hp hc (by omega) (by omega)
    · refine ⟨_, rfl, _, rfl, _, _, rfl, rfl, (by decide : (0 : Int) < 2147483629), _, _, rfl, rfl, cmul_r (by decide) (by decide), _, rfl, _, _, rfl, rfl, cmul_l (by decide) (by decide), _, _, rfl, rfl, _, _, rfl, rfl, (by decide : (0 : Int) < 2147483629), _, _, rfl, rfl, by show 2 ≤ sizeLine; decide, fun p hp => ?_⟩
      exact k p 0 _ hp (by decide) (by omega) (by omega)
  have ab : ∀ z : Int, 0 ≤ (if z < 0 then -z else z) := fun z => by split <;> omega
  refine ⟨_, rfl, _, _, rfl, rfl, cmul_l (by decide) (by decide), _, _, rfl, rfl, ?_⟩
  refine ⟨_, rfl, _, rfl, a, _, rfl, .inl hS, _, _, rfl, rfl, _, rfl, ite2 (fun c => ?_) (fun c => ?_)⟩
  · have c' : j < ((ns.map V.int).length : Int) := of_decide_eq_true c
    rw [List.length_map] at c'
    obtain ⟨z, hz⟩ : ∃ z, ns[j.toNat]? = some z := ⟨_, List.getElem?_eq_getElem (by omega)⟩
    refine ⟨_, rfl, _, rfl, a, _, _, .int z, rfl, rfl, hS, ?_, _, rfl, fin _ (ab z) _⟩
    have e : j = ((j.toNat : Nat) : Int) := by omega
    rw [e]
    exact atI_nat (by rw [List.getElem?_map, hz]; rfl)
  · refine ⟨_, rfl, a, _, rfl, .inl hS, _, _, rfl, rfl, _, rfl, ite2 (fun c2 => ?_) (fun c2 => ?_)⟩
    · have c' : (0 : Int) < ((ns.map V.int).length : Int) := of_decide_eq_true c2
      have m1 := mod_lt' j c' (Int.le_refl _)
      obtain ⟨z, hz⟩ : ∃ z, ns[(j % ((ns.map V.int).length : Int)).toNat]? = some z := ⟨_, List.getElem?_eq_getElem (by rw [List.length_map] at m1 ⊢; omega)⟩
      refine ⟨_, rfl, _, rfl, _, rfl, a, _, rfl, .inl hS, _, _, rfl, rfl, c', a, _, _, .int z, rfl, rfl, hS, ?_, _, rfl, _, _, rfl, rfl, (by decide : (0 : Int) < 2147483629), _, _, rfl, rfl, cmul_r (by decide) (by decide), _, rfl, _, _, rfl, rfl, cmul_l (by decide) (by decide), _, _, rfl, rfl, fin _ ?_ _⟩
      · have e : j % ((ns.map V.int).length : Int) = (((j % ((ns.map V.int).length : Int)).toNat : Nat) : Int) := by omega
        rw [e]
        exact atI_nat (by rw [List.getElem?_map, hz]; rfl)
      · have := mod_lt' (if z < 0 then -z else z) (b := 2147483629) (c := 2147483629) (by decide) (by decide)
        omega
    · exact fin _ (by omega) _
theorem ok_same (D : Def K mg "_law_same" s_same) (T : Blt mg) : HasG P w K mg base CX0 1 "_law_same" ["_law_one", "_law_other"] (spSame K) := by
  obtain ⟨f, fd, F, hm⟩ := D
  refine ⟨f, fd, F.okG sc_same (fun vs H Q E h => ?_) (fun cdv A outer s H vs Q E hgs hr h => ?_), hm, F.kp, F.binds fun _ _ _ _ _ _ us hl => match us, hl with | [_, _], _ => rfl⟩
  · obtain ⟨x, y, d, e, rfl, _⟩ := h
    rfl
  obtain ⟨x, y, d, e, rfl, ⟨x1, x2, x3, x4, x5⟩, ⟨y1, y2, y3, y4, y5⟩, k⟩ := h
  refine ⟨_, (pss_one (ps_ret (pe_cmpR op_eq (pe_callB (call_reprD hgs hr.units) (by rfl) T.n_repr (by decide +kernel) (pa_cons (pv 0) pa_nil)) (pe_callB (call_reprD hgs hr.units) (by rfl) T.n_repr (by decide +kernel) (pa_cons (pv 1) pa_nil)) (nomark _)))), ?_⟩
  exact ⟨_, rfl, x, d, rfl, x1, x2, x3, x4, x5, _, rfl, y, e, rfl, y1, y2, y3, y4, y5, rfl, k⟩
end
end Law

set_option Elab.async false
set_option linter.all false
set_option maxRecDepth 100000
set_option maxHeartbeats 4000000
namespace Law
open PySem L2
abbrev s_thing : Stmt := top 20
abbrev s_told : Stmt := top 21
abbrev s_sorts : Stmt := top 22
abbrev s_parts : Stmt := top 23
abbrev s_law : Stmt := top 24
theorem sc_thing : FnScope ["_law_feed_here", "_law_some"] ["_law_feed_here"] (defScope s_thing) := ⟨rfl, rfl, rfl, by decide +kernel, rfl, by decide +kernel, by decide +kernel⟩
theorem sc_told : FnScope ["_law_feed_here", "_law_one", "_law_other"] ["_law_feed_here", "_law_one", "_law_other"] (defScope s_told) := ⟨rfl, rfl, rfl, by decide +kernel, rfl, by decide +kernel, by decide +kernel⟩
theorem sc_sorts : FnScope ["_law_error"] ["_law_error"] (defScope s_sorts) := ⟨rfl, rfl, rfl, by decide +kernel, rfl, by decide +kernel, by decide +kernel⟩
theorem sc_parts : FnScope ["_law_error", "_law_at"] ["_law_error", "_law_at"] (defScope s_parts) := ⟨rfl, rfl, rfl, by decide +kernel, rfl, by decide +kernel, by decide +kernel⟩
theorem sc_law : FnScope ["_law_script", "_law_k", "_law_feed_here", "_law_one", "_law_other", "_law_at", "_law_row", "_law_error", "_law_due", "_law_last", "_law_place"] ["_law_script"] (defScope s_law) := ⟨rfl, rfl, rfl, by decide +kernel, rfl, by decide +kernel, by decide +kernel⟩
/-! ### data that stay -/
/-- all but what stands at p is as it was -/
def But (p : Addr) (H H' : Hp) : Prop := ∀ b o, b ≠ p → H b = some o → H' b = some o
mutual
def noList : PyData → Bool
  | .list _ => false
  | .tuple xs => noLists xs
  | .dict _ => false
  | _ => true
def noLists : List PyData → Bool
  | [] => true
  | x :: xs => noList x && noLists xs
end
theorem SqT.but {K : PySem.W.Frag} {p : Addr} {H H' : Hp} {l : List V} (h : But p H H') (hp : H p = some (.lst l)) {a : Addr} {xs : List V} (s : SqT K H a xs) : SqT K H' a xs := by
  rcases s with (s | ⟨o, s⟩) | s
  · refine .inl (.inl (h _ _ (fun e => ?_) s))
    rw [e, hp] at s
    cases s
  · refine .inl (.inr ⟨o, h _ _ (fun e => ?_) s⟩)
    rw [e, hp] at s
    cases s
  · exact .inr s
mutual
theorem Dp.tups {K : PySem.W.Frag} {H H' : Hp} (h : ∀ a xs, SqT K H a xs → SqT K H' a xs) : ∀ {x : V} {d : PyData}, Dp K H x d → noList d = true → Dp K H' x d
  | _, _, .non, _ => .non
  | _, _, .bl b, _ => .bl b
  | _, _, .int i, _ => .int i
  | _, _, .str x, _ => .str x
  | _, _, .lst _ _, n => by simp [noList] at n
  | _, _, .tup s r, n => .tup (h _ _ s) (DpAll.tups h r (by simpa [noList] using n))
theorem DpAll.tups {K : PySem.W.Frag} {H H' : Hp} (h : ∀ a xs, SqT K H a xs → SqT K H' a xs) : ∀ {xs : List V} {ds : List PyData}, DpAll K H xs ds → noLists ds = true → DpAll K H' xs ds
  | _, _, .nil, _ => .nil
  | _, _, .cons r t, n => by
    simp only [noLists, Bool.and_eq_true] at n
    exact .cons (Dp.tups h r n.1) (DpAll.tups h t n.2)
end
/-- what may be shown -/
def Good (d : PyData) : Prop := noList d = true ∧ d.showable = true ∧ d.hasDict = false ∧ d.depth ≤ 50 ∧ d.shown.length ≤ 1000
def spThing (K : PySem.W.Frag) : Sp := fun vs H Q _ => ∃ (p : Addr) (own st : Int), vs = [.ref p] ∧ H p = some (.lst [.int own, .int st]) ∧ 0 ≤ own ∧ 0 < st ∧ st < 4294967296 ∧
  ∀ (x : V) (d : PyData) (own' st' : Int) (H' : Hp), But p H H' → H' p = some (.lst [.int own', .int st']) → 0 ≤ own' → 0 < st' → st' < 4294967296 → Dp K H' x d → Good d → Q x H'
section
variable {P : Program} {w : World} {K : PySem.W.Frag} {mg : Str → Option Value} {base : Heap}
structure O1 (P : Program) (w : World) (K : PySem.W.Frag) (mg : Str → Option Value) (base : Heap) : Prop where
  law_feed : HasFn P w K mg base CX0 1 "_law_feed" ["_law_script", "_law_k"] (spFeed K)
  law_take : HasFn P w K mg base CX0 1 "_law_take" ["_law_feed_here", "_law_many"] spTake
  law_same : HasG P w K mg base CX0 1 "_law_same" ["_law_one", "_law_other"] (spSame K)
theorem _root_.L2.Same.new {q : Addr} {H : Hp} {o : HO} (hq : H q = none) : Same H (L2.upd H q o) := fun b u e => by
  rw [upd_ne (ne_of_none e hq)]
  exact e
theorem _root_.L2.Same.upd' {q : Addr} {H H' : Hp} {o : HO} (h : Same H H') (hq : H' q = none) : Same H (L2.upd H' q o) := h.trans (Same.new hq)
theorem But.upd {p q : Addr} {H H' : Hp} {o : HO} (h : But p H H') (hq : H' q = none) : But p H (L2.upd H' q o) := fun b u hb e => by
  have e' := h b u hb e
  rw [L2.upd_ne (ne_of_none e' hq)]
  exact e'
theorem ok_thing (D : Def K mg "_law_thing" s_thing) (O : O1 P w K mg base) : HasFn P w K mg base CX0 2 "_law_thing" ["_law_feed_here"] (spThing K) := by
  obtain ⟨f, fd, F, hm⟩ := D
  refine ⟨f, fd, F.ok sc_thing (fun vs H Q E h => ?_) (fun cdv A outer s H vs Q E hr h => ?_), hm, F.kp, F.binds fun _ _ _ _ _ _ us hl => match us, hl with | [_], _ => rfl⟩
  · obtain ⟨p, own, st, rfl, _⟩ := h
    rfl
  obtain ⟨p, own, st, rfl, hp, h1, h2, h3, k⟩ := h
  refine ⟨_, (pss_cons (ps_set (i := 1) sc_thing.nd rfl (Or.inl rfl) (pe_lst (pa_cons pe_non (pa_cons pe_bl (pa_cons pe_int (pa_cons pe_int (pa_cons pe_str (pa_cons pe_str (pa_cons pe_str (pa_cons (pe_tup pa_nil) (pa_cons (pe_tup (pa_cons pe_int (pa_cons (pe_tup (pa_cons pe_str (pa_cons pe_non pa_nil))) pa_nil))) (pa_cons (pe_op op_pow pe_int pe_int) (pa_cons (pe_un un_neg pe_int) pa_nil)))))))))))))
  (pss_one (ps_ret (pe_ix ix_list (pv 1) (pe_callO O.law_take hr (by rfl) pass0 (pa_cons (pv 0) (pa_cons pe_int pa_nil))) (fun _ _ => rfl))))), ?_⟩
  refine ⟨Nat.zero_le _, fun t0 n0 => ⟨by show 2 ≤ sizeLine; decide, fun t1 n1 => ⟨by show 2 ≤ sizeLine; decide, fun t2 n2 => ⟨_, _, rfl, rfl, ⟨by decide, by decide, by decide⟩, _, rfl, by show 11 ≤ sizeLine; decide, fun l nl => ?_⟩⟩⟩⟩
  have s0 : Same H (upd H t0 (.tup [])) := Same.new n0
  have s1 := s0.upd' (o := .tup [.str "x", .non]) n1
  have s2 := s1.upd' (o := .tup [.int 1, .ref t1]) n2
  have s3 := s2.upd' (o := .lst [.non, .bl true, .int 0, .int 1, .str "", .str "a", .str "A b", .ref t0, .ref t2, .int (10 ^ (30 : Int).toNat), .int (-5)]) nl
  have pl : p ≠ l := ne_of_none (s2 _ _ hp) nl
  refine ⟨_, rfl, _, rfl, p, own, st, 11, rfl, s3 _ _ hp, h1, h2, h3, by decide, by decide, fun d own' st' d0 d1 o0 u0 u1 => ?_⟩
  have bt : But p H (upd (upd (upd (upd (upd H t0 (.tup [])) t1 (.tup [.str "x", .non])) t2 (.tup [.int 1, .ref t1])) l (.lst [.non, .bl true, .int 0, .int 1, .str "", .str "a", .str "A b", .ref t0, .ref t2, .int (10 ^ (30 : Int).toNat), .int (-5)])) p (.lst [.int own', .int st'])) :=
    fun b o hb e => by rw [upd_ne hb]; exact s3 _ _ e
  have hl := Eq.trans (upd_ne (o := .lst [.int own', .int st']) pl.symm) (upd_same (H := upd (upd (upd H t0 (.tup [])) t1 (.tup [.str "x", .non])) t2 (.tup [.int 1, .ref t1])) (a := l) (o := .lst [.non, .bl true, .int 0, .int 1, .str "", .str "a", .str "A b", .ref t0, .ref t2, .int (10 ^ (30 : Int).toNat), .int (-5)]))
  have g0 : ∀ {t : Addr} {xs : List V}, (upd (upd (upd H t0 (.tup [])) t1 (.tup [.str "x", .non])) t2 (.tup [.int 1, .ref t1])) t = some (.tup xs) → (upd (upd (upd (upd (upd H t0 (.tup [])) t1 (.tup [.str "x", .non])) t2 (.tup [.int 1, .ref t1])) l (.lst [.non, .bl true, .int 0, .int 1, .str "", .str "a", .str "A b", .ref t0, .ref t2, .int (10 ^ (30 : Int).toNat), .int (-5)])) p (.lst [.int own', .int st'])) t = some (.tup xs) := fun {t xs} e => by
    rw [upd_ne (ne_of e (s2 _ _ hp) (by intro z; cases z)), upd_ne (ne_of_none e nl)]
    exact e
  have f0 := g0 (t := t0) (xs := []) (by rw [upd_ne (ne_of_none (Eq.trans (upd_ne (ne_of_none upd_same n1)) upd_same) n2), upd_ne (ne_of_none upd_same n1), upd_same])
  have f1 := g0 (t := t1) (xs := [.str "x", .non]) (by rw [upd_ne (ne_of_none upd_same n2), upd_same])
  have f2 := g0 (t := t2) (xs := [.int 1, .ref t1]) upd_same
  have c : d = 0 ∨ d = 1 ∨ d = 2 ∨ d = 3 ∨ d = 4 ∨ d = 5 ∨ d = 6 ∨ d = 7 ∨ d = 8 ∨ d = 9 ∨ d = 10 := by omega
  rcases c with rfl | rfl | rfl | rfl | rfl | rfl | rfl | rfl | rfl | rfl | rfl
  · exact ⟨l, _, _, _, rfl, rfl, SqL.of hl, rfl, k _ .none _ _ _ bt upd_same o0 u0 u1 .non (by refine ⟨?_, ?_, ?_, ?_, ?_⟩ <;> decide +kernel)⟩
  · exact ⟨l, _, _, _, rfl, rfl, SqL.of hl, rfl, k _ (.bool true) _ _ _ bt upd_same o0 u0 u1 (.bl _) (by refine ⟨?_, ?_, ?_, ?_, ?_⟩ <;> decide +kernel)⟩
  · exact ⟨l, _, _, _, rfl, rfl, SqL.of hl, rfl, k _ (.int 0) _ _ _ bt upd_same o0 u0 u1 (.int _) (by refine ⟨?_, ?_, ?_, ?_, ?_⟩ <;> decide +kernel)⟩
  · exact ⟨l, _, _, _, rfl, rfl, SqL.of hl, rfl, k _ (.int 1) _ _ _ bt upd_same o0 u0 u1 (.int _) (by refine ⟨?_, ?_, ?_, ?_, ?_⟩ <;> decide +kernel)⟩
  · exact ⟨l, _, _, _, rfl, rfl, SqL.of hl, rfl, k _ (.str "") _ _ _ bt upd_same o0 u0 u1 (.str _) (by refine ⟨?_, ?_, ?_, ?_, ?_⟩ <;> decide +kernel)⟩
  · exact ⟨l, _, _, _, rfl, rfl, SqL.of hl, rfl, k _ (.str "a") _ _ _ bt upd_same o0 u0 u1 (.str _) (by refine ⟨?_, ?_, ?_, ?_, ?_⟩ <;> decide +kernel)⟩
  · exact ⟨l, _, _, _, rfl, rfl, SqL.of hl, rfl, k _ (.str "A b") _ _ _ bt upd_same o0 u0 u1 (.str _) (by refine ⟨?_, ?_, ?_, ?_, ?_⟩ <;> decide +kernel)⟩
  · exact ⟨l, _, _, _, rfl, rfl, SqL.of hl, rfl, k _ (.tuple []) _ _ _ bt upd_same o0 u0 u1 (.tup (SqT.of f0) .nil) (by refine ⟨?_, ?_, ?_, ?_, ?_⟩ <;> decide +kernel)⟩
  · exact ⟨l, _, _, _, rfl, rfl, SqL.of hl, rfl, k _ (.tuple [.int 1, .tuple [.str "x", .none]]) _ _ _ bt upd_same o0 u0 u1 (.tup (SqT.of f2) (.cons (.int _) (.cons (.tup (SqT.of f1) (.cons (.str _) (.cons .non .nil))) .nil))) (by refine ⟨?_, ?_, ?_, ?_, ?_⟩ <;> decide +kernel)⟩
  · exact ⟨l, _, _, _, rfl, rfl, SqL.of hl, rfl, k _ (.int (10 ^ 30)) _ _ _ bt upd_same o0 u0 u1 (.int _) (by refine ⟨?_, ?_, ?_, ?_, ?_⟩ <;> decide +kernel)⟩
  · exact ⟨l, _, _, _, rfl, rfl, SqL.of hl, rfl, k _ (.int (-5)) _ _ _ bt upd_same o0 u0 u1 (.int _) (by refine ⟨?_, ?_, ?_, ?_, ?_⟩ <;> decide +kernel)⟩
end
end Law

set_option Elab.async false
set_option linter.all false
set_option maxRecDepth 100000
set_option maxHeartbeats 4000000
namespace Law
open PySem L2
/-- the classes of the text: c i is the i-th, hE the common base -/
structure Txt (P : Program) (w : World) (K : PySem.W.Frag) (mg : Str → Option Value) (c : Nat → Addr) (hE : Addr) : Prop where
  x_InvalidName : Xc P w K mg "InvalidName" (c 0) ["name"]
  x_InvalidText : Xc P w K mg "InvalidText" (c 1) ["row"]
  x_InvalidDeed : Xc P w K mg "InvalidDeed" (c 2) ["name"]
  x_NoRatio : Xc P w K mg "NoRatio" (c 3) []
  x_OtherChoices : Xc P w K mg "OtherChoices" (c 4) []
  x_Taken : Xc P w K mg "Taken" (c 5) ["name"]
  x_Unready : Xc P w K mg "Unready" (c 6) ["where", "name"]
  x_Opened : Xc P w K mg "Opened" (c 7) ["name"]
  x_NotOpen : Xc P w K mg "NotOpen" (c 8) ["name"]
  x_TooWide : Xc P w K mg "TooWide" (c 9) ["deed", "row"]
  x_NotNumber : Xc P w K mg "NotNumber" (c 10) []
  x_Clash : Xc P w K mg "Clash" (c 11) ["name"]
  x_InvalidCommand : Xc P w K mg "InvalidCommand" (c 12) []
  x_UnknownName : Xc P w K mg "UnknownName" (c 13) ["name"]
  m_HadnotError : mg "HadnotError" = some (.ref hE)
  kit : ∀ i j, i < 14 → j < 14 → PySem.W.kitOne K (.ref (c i)) (.ref (c j)) = some (decide (i = j))
  kitH : ∀ i, i < 14 → PySem.W.kitOne K (.ref (c i)) (.ref hE) = some (decide (i ≠ 13))
  kitV : ∀ i, i < 14 → PySem.W.kitOne K (.ref (c i)) (.type "ValueError") = some (decide (i ≠ 13))
  kitK : ∀ i, i < 14 → PySem.W.kitOne K (.ref (c i)) (.type "KeyError") = some (decide (i = 13))
  n_isinstance : mg "isinstance" = none
  n_ValueError : mg "ValueError" = none
  n_KeyError : mg "KeyError" = none
  n_range : mg "range" = none
  n_enumerate : mg "enumerate" = none
  n_max : mg "max" = none
  n_min : mg "min" = none
  n_len : mg "len" = none
theorem ExAt.same {H H' : Hp} {e C : Addr} {fs : List (Str × V)} (s : Same H H') (h : ExAt H e C fs) : ExAt H' e C fs := by
  rcases h with ⟨h0, h⟩ | ⟨d, h, h'⟩
  · exact .inl ⟨h0, s _ _ h⟩
  · exact .inr ⟨d, s _ _ h, s _ _ h'⟩
/-- a row of the list of errors -/
def RowAt (H : Hp) (t C : Addr) (fs : List (Str × V)) : Prop := ∃ e n v, H t = some (.tup [.ref e, .ref n, .ref v]) ∧ ExAt H e C fs ∧ H v = some (.lst (fs.map (·.2)))
theorem RowAt.same {H H' : Hp} {t C : Addr} {fs : List (Str × V)} (s : Same H H') (h : RowAt H t C fs) : RowAt H' t C fs := by
  obtain ⟨e, n, v, h1, h2, h3⟩ := h
  exact ⟨e, n, v, s _ _ h1, ExAt.same s h2, s _ _ h3⟩
theorem row0 {σ : St} {H : Hp} {Q : VK} {C : Addr} (k : ∀ t H', Same H H' → RowAt H' t C [] → Q (.ref t) H') :
    tTup (tCons (tMkV C [] tNil) (tCons (tLst tNil) (tCons (tLst tNil) tNil))) σ H Q := by
  refine ⟨rfl, fun e ne => ⟨Nat.zero_le _, fun n nn => ⟨Nat.zero_le _, fun v nv => ⟨by show 3 ≤ sizeLine; decide, fun t nt => ?_⟩⟩⟩⟩
  have s1 : Same H _ := Same.new (o := exo e C none) ne
  have s2 : Same (upd H e (exo e C none)) _ := Same.new (o := .lst []) nn
  have s3 := s2.upd' (o := .lst []) nv
  have s4 := Same.new (o := .tup [.ref e, .ref n, .ref v]) nt
  exact k t _ ((s1.trans s3).trans s4) ⟨e, n, v, upd_same, .inl ⟨rfl, (s3.trans s4) _ _ upd_same⟩, s4 _ _ upd_same⟩
theorem row1 {σ : St} {H : Hp} {Q : VK} {C : Addr} {f : Str} {i : Nat} {x : V} (hx : σ[i]? = some (some x)) (k : ∀ t H', Same H H' → RowAt H' t C [(f, x)] → Q (.ref t) H') :
    tTup (tCons (tMkV C [f] (tCons (tVar i) tNil)) (tCons (tLst (tCons (tC (.str f)) tNil)) (tCons (tLst (tCons (tVar i) tNil)) tNil))) σ H Q := by
  refine ⟨x, hx, rfl, fun d e nd ne hde => ⟨by show 1 ≤ sizeLine; decide, fun n nn => ⟨x, hx, by show 1 ≤ sizeLine; decide, fun v nv => ⟨by show 3 ≤ sizeLine; decide, fun t nt => ?_⟩⟩⟩⟩
  have ne' : (upd H d (.xd [(f, x)])) e = none := by rw [upd_ne (Ne.symm hde)]; exact ne
  have s0 : Same H _ := Same.new (o := .xd [(f, x)]) nd
  have s1 : Same (upd H d (.xd [(f, x)])) _ := Same.new (o := exo e C (some d)) ne'
  have s2 : Same (upd (upd H d (.xd [(f, x)])) e (exo e C (some d))) _ := Same.new (o := .lst [.str f]) nn
  have s3 := s2.upd' (o := .lst [x]) nv
  have s4 := Same.new (o := .tup [.ref e, .ref n, .ref v]) nt
  exact k t _ (((s0.trans s1).trans s3).trans s4) ⟨e, n, v, upd_same, .inr ⟨d, (s3.trans s4) _ _ upd_same, ((s1.trans s3).trans s4) _ _ upd_same⟩, s4 _ _ upd_same⟩
theorem row2 {σ : St} {H : Hp} {Q : VK} {C : Addr} {f g : Str} {i j : Nat} {x y : V} (hx : σ[i]? = some (some x)) (hy : σ[j]? = some (some y)) (k : ∀ t H', Same H H' → RowAt H' t C [(f, x), (g, y)] → Q (.ref t) H') :
    tTup (tCons (tMkV C [f, g] (tCons (tVar i) (tCons (tVar j) tNil))) (tCons (tLst (tCons (tC (.str f)) (tCons (tC (.str g)) tNil))) (tCons (tLst (tCons (tVar i) (tCons (tVar j) tNil))) tNil))) σ H Q := by
  refine ⟨x, hx, y, hy, rfl, fun d e nd ne hde => ⟨by show 2 ≤ sizeLine; decide, fun n nn => ⟨x, hx, y, hy, by show 2 ≤ sizeLine; decide, fun v nv => ⟨by show 3 ≤ sizeLine; decide, fun t nt => ?_⟩⟩⟩⟩
  have ne' : (upd H d (.xd [(f, x), (g, y)])) e = none := by rw [upd_ne (Ne.symm hde)]; exact ne
  have s0 : Same H _ := Same.new (o := .xd [(f, x), (g, y)]) nd
  have s1 : Same (upd H d (.xd [(f, x), (g, y)])) _ := Same.new (o := exo e C (some d)) ne'
  have s2 : Same (upd (upd H d (.xd [(f, x), (g, y)])) e (exo e C (some d))) _ := Same.new (o := .lst [.str f, .str g]) nn
  have s3 := s2.upd' (o := .lst [x, y]) nv
  have s4 := Same.new (o := .tup [.ref e, .ref n, .ref v]) nt
  exact k t _ (((s0.trans s1).trans s3).trans s4) ⟨e, n, v, upd_same, .inr ⟨d, (s3.trans s4) _ _ upd_same, ((s1.trans s3).trans s4) _ _ upd_same⟩, s4 _ _ upd_same⟩
/-- the fields of the i-th error -/
def spec (x y : V) : Nat → List (Str × V)
  | 1 => [("row", x)]
  | 3 => []
  | 4 => []
  | 6 => [("where", x), ("name", y)]
  | 9 => [("deed", x), ("row", y)]
  | 10 => []
  | 12 => []
  | _ => [("name", x)]
def spTold (c : Nat → Addr) : Sp := fun vs H Q _ => ∃ (p x y : V), vs = [p, x, y] ∧ ∀ (L : Addr) (ts : List Addr) (H' : Hp), Same H H' → H' L = some (.lst (ts.map V.ref)) → ts.length = 13 → (∀ i t, ts[i]? = some t → RowAt H' t (c i) (spec x y i)) → Q (.ref L) H'
def spSorts (c : Nat → Addr) : Sp := fun vs H Q _ => ∃ (e : Addr) (i : Nat) (fs : List (Str × V)), vs = [.ref e] ∧ i < 14 ∧ ExAt H e (c i) fs ∧
  ∀ p, H p = none → Q (.ref p) (upd H p (.lst ((List.range 14).map fun j => V.bl (decide (i = j)))))
def spParts (c : Nat → Addr) : Sp := fun vs H Q _ => ∃ (e : Addr) (i : Nat) (x y : V), vs = [.ref e, .int i] ∧ i < 13 ∧ ExAt H e (c i) (spec x y i) ∧
  ∀ p H', Same H H' → H p = none → H' p = some (.lst ((spec x y i).map (·.2))) → Q (.ref p) H'
section
variable {P : Program} {w : World} {K : PySem.W.Frag} {mg : Str → Option Value} {base : Heap} {c : Nat → Addr} {hE : Addr}
theorem tRet_i {te : TE} {D : Ends} {σ : St} {H : Hp} (h : te σ H D.rt) : tRet te D σ H := h
theorem tLst_i {t : TA} {σ : St} {H : Hp} {Q : VK} (h : t σ H fun xs H1 => xs.length ≤ sizeLine ∧ ∀ p, H1 p = none → Q (.ref p) (upd H1 p (.lst xs))) : tLst t σ H Q := h
theorem tCons_i {te : TE} {tr : TA} {σ : St} {H : Hp} {Q : List V → Hp → Prop} (h : te σ H fun x H1 => tr σ H1 fun xs H2 => Q (x :: xs) H2) : tCons te tr σ H Q := h
theorem iteB {b : Bool} {A B : Prop} (e : b = true) (h : A) : if b = true then A else B := by rw [if_pos e]; exact h
theorem iteN {b : Bool} {A B : Prop} (e : b = false) (h : B) : if b = true then A else B := by rw [e, if_neg Bool.false_ne_true]; exact h
theorem Txt.isb (T : Txt P w K mg c hE) : ∀ i, i < 14 → isB K (c i) = true := fun i hi => by
  match i, hi with
  | 0, _ => exact T.x_InvalidName.isb
  | 1, _ => exact T.x_InvalidText.isb
  | 2, _ => exact T.x_InvalidDeed.isb
  | 3, _ => exact T.x_NoRatio.isb
  | 4, _ => exact T.x_OtherChoices.isb
  | 5, _ => exact T.x_Taken.isb
  | 6, _ => exact T.x_Unready.isb
  | 7, _ => exact T.x_Opened.isb
  | 8, _ => exact T.x_NotOpen.isb
  | 9, _ => exact T.x_TooWide.isb
  | 10, _ => exact T.x_NotNumber.isb
  | 11, _ => exact T.x_Clash.isb
  | 12, _ => exact T.x_InvalidCommand.isb
  | 13, _ => exact T.x_UnknownName.isb
theorem ok_sorts (D : Def K mg "_law_sorts" s_sorts) (T : Txt P w K mg c hE) : HasFn P w K mg base CX0 1 "_law_sorts" ["_law_error"] (spSorts c) := by
  obtain ⟨f, fd, F, hm⟩ := D
  refine ⟨f, fd, F.ok sc_sorts (fun vs H Q E h => ?_) (fun cdv A outer s H vs Q E hr h => ?_), hm, F.kp, F.binds fun _ _ _ _ _ _ us hl => match us, hl with | [_], _ => rfl⟩
  · obtain ⟨e, i, fs, rfl, _⟩ := h
    rfl
  obtain ⟨e, i, fs, rfl, hi, hE', k⟩ := h
  refine ⟨_, (pss_one (ps_ret (pe_lst (pa_cons (pe_callB call_isX (by rfl) T.n_isinstance (by decide +kernel) (pa_cons (pv 0) (pa_cons (pe_glob (v := .ref (c 0)) (by rfl) T.x_InvalidName.gC rfl) pa_nil))) (pa_cons (pe_callB call_isX (by rfl) T.n_isinstance (by decide +kernel) (pa_cons (pv 0) (pa_cons (pe_glob (v := .ref (c 1)) (by rfl) T.x_InvalidText.gC rfl) pa_nil))) (pa_cons (pe_callB call_isX (by rfl) T.n_isinstance (by decide +kernel) (pa_cons (pv 0) (pa_cons (pe_glob (v := .ref (c 2)) (by rfl) T.x_InvalidDeed.gC rfl) pa_nil))) (pa_cons (pe_callB call_isX (by rfl) T.n_isinstance (by decide +kernel) (pa_cons (pv 0) (pa_cons (pe_glob (v := .ref (c 3)) (by rfl) T.x_NoRatio.gC rfl) pa_nil))) (pa_cons (pe_callB call_isX (by rfl) T.n_isinstance (by decide +kernel) (pa_cons (pv 0) (pa_cons (pe_glob (v := .ref (c 4)) (by rfl) T.x_OtherChoices.gC rfl) pa_nil))) (pa_cons (pe_callB call_isX (by rfl) T.n_isinstance (by decide +kernel) (pa_cons (pv 0) (pa_cons (pe_glob (v := .ref (c 5)) (by rfl) T.x_Taken.gC rfl) pa_nil))) (pa_cons (pe_callB call_isX (by rfl) T.n_isinstance (by decide +kernel) (pa_cons (pv 0) (pa_cons (pe_glob (v := .ref (c 6)) (by rfl) T.x_Unready.gC rfl) pa_nil))) (pa_cons (pe_callB call_isX (by rfl) T.n_isinstance (by decide +kernel) (pa_cons (pv 0) (pa_cons (pe_glob (v := .ref (c 7)) (by rfl) T.x_Opened.gC rfl) pa_nil))) (pa_cons (pe_callB call_isX (by rfl) T.n_isinstance (by decide +kernel) (pa_cons (pv 0) (pa_cons (pe_glob (v := .ref (c 8)) (by rfl) T.x_NotOpen.gC rfl) pa_nil))) (pa_cons (pe_callB call_isX (by rfl) T.n_isinstance (by decide +kernel) (pa_cons (pv 0) (pa_cons (pe_glob (v := .ref (c 9)) (by rfl) T.x_TooWide.gC rfl) pa_nil))) (pa_cons (pe_callB call_isX (by rfl) T.n_isinstance (by decide +kernel) (pa_cons (pv 0) (pa_cons (pe_glob (v := .ref (c 10)) (by rfl) T.x_NotNumber.gC rfl) pa_nil))) (pa_cons (pe_callB call_isX (by rfl) T.n_isinstance (by decide +kernel) (pa_cons (pv 0) (pa_cons (pe_glob (v := .ref (c 11)) (by rfl) T.x_Clash.gC rfl) pa_nil))) (pa_cons (pe_callB call_isX (by rfl) T.n_isinstance (by decide +kernel) (pa_cons (pv 0) (pa_cons (pe_glob (v := .ref (c 12)) (by rfl) T.x_InvalidCommand.gC rfl) pa_nil))) (pa_cons (pe_callB call_isX (by rfl) T.n_isinstance (by decide +kernel) (pa_cons (pv 0) (pa_cons (pe_glob (v := .ref (c 13)) (by rfl) T.x_UnknownName.gC rfl) pa_nil))) pa_nil))))))))))))))))), ?_⟩
  refine ⟨_, rfl, e, _, fs, _, .ref (c 0), _, rfl, hE', T.isb i hi, (fun _ h => h), T.kit i 0 hi (by decide), _, rfl, e, _, fs, _, .ref (c 1), _, rfl, hE', T.isb i hi, (fun _ h => h), T.kit i 1 hi (by decide), _, rfl, e, _, fs, _, .ref (c 2), _, rfl, hE', T.isb i hi, (fun _ h => h), T.kit i 2 hi (by decide), _, rfl, e, _, fs, _, .ref (c 3), _, rfl, hE', T.isb i hi, (fun _ h => h), T.kit i 3 hi (by decide), _, rfl, e, _, fs, _, .ref (c 4), _, rfl, hE', T.isb i hi, (fun _ h => h), T.kit i 4 hi (by decide), _, rfl, e, _, fs, _, .ref (c 5), _, rfl, hE', T.isb i hi, (fun _ h => h), T.kit i 5 hi (by decide), _, rfl, e, _, fs, _, .ref (c 6), _, rfl, hE', T.isb i hi, (fun _ h => h), T.kit i 6 hi (by decide), _, rfl, e, _, fs, _, .ref (c 7), _, rfl, hE', T.isb i hi, (fun _ h => h), T.kit i 7 hi (by decide), _, rfl, e, _, fs, _, .ref (c 8), _, rfl, hE', T.isb i hi, (fun _ h => h), T.kit i 8 hi (by decide), _, rfl, e, _, fs, _, .ref (c 9), _, rfl, hE', T.isb i hi, (fun _ h => h), T.kit i 9 hi (by decide), _, rfl, e, _, fs, _, .ref (c 10), _, rfl, hE', T.isb i hi, (fun _ h => h), T.kit i 10 hi (by decide), _, rfl, e, _, fs, _, .ref (c 11), _, rfl, hE', T.isb i hi, (fun _ h => h), T.kit i 11 hi (by decide), _, rfl, e, _, fs, _, .ref (c 12), _, rfl, hE', T.isb i hi, (fun _ h => h), T.kit i 12 hi (by decide), _, rfl, e, _, fs, _, .ref (c 13), _, rfl, hE', T.isb i hi, (fun _ h => h), T.kit i 13 hi (by decide), by show 14 ≤ sizeLine; decide, fun p hp => ?_⟩
  exact k p hp
theorem ok_told (D : Def K mg "_law_told" s_told) (T : Txt P w K mg c hE) : HasFn P w K mg base CX0 2 "_law_told" ["_law_feed_here", "_law_one", "_law_other"] (spTold c) := by
  obtain ⟨f, fd, F, hm⟩ := D
  refine ⟨f, fd, F.ok sc_told (fun vs H Q E h => ?_) (fun cdv A outer s H vs Q E hr h => ?_), hm, F.kp, F.binds fun _ _ _ _ _ _ us hl => match us, hl with | [_, _, _], _ => rfl⟩
  · obtain ⟨p, x, y, rfl, _⟩ := h
    rfl
  obtain ⟨p, x, y, rfl, k⟩ := h
  refine ⟨_, (pss_one (ps_ret (pe_lst (pa_cons (pe_tup (pa_cons (pe_xmk T.x_InvalidName.mkc T.x_InvalidName.kC hr (by rfl) T.x_InvalidName.gC (pa_cons (pv 1) pa_nil)) (pa_cons (pe_lst (pa_cons pe_str pa_nil)) (pa_cons (pe_lst (pa_cons (pv 1) pa_nil)) pa_nil)))) (pa_cons (pe_tup (pa_cons (pe_xmk T.x_InvalidText.mkc T.x_InvalidText.kC hr (by rfl) T.x_InvalidText.gC (pa_cons (pv 1) pa_nil)) (pa_cons (pe_lst (pa_cons pe_str pa_nil)) (pa_cons (pe_lst (pa_cons (pv 1) pa_nil)) pa_nil)))) (pa_cons (pe_tup (pa_cons (pe_xmk T.x_InvalidDeed.mkc T.x_InvalidDeed.kC hr (by rfl) T.x_InvalidDeed.gC (pa_cons (pv 1) pa_nil)) (pa_cons (pe_lst (pa_cons pe_str pa_nil)) (pa_cons (pe_lst (pa_cons (pv 1) pa_nil)) pa_nil)))) (pa_cons (pe_tup (pa_cons (pe_xmk0 T.x_NoRatio.mkc T.x_NoRatio.kC hr (by rfl) T.x_NoRatio.gC) (pa_cons (pe_lst pa_nil) (pa_cons (pe_lst pa_nil) pa_nil)))) (pa_cons (pe_tup (pa_cons (pe_xmk0 T.x_OtherChoices.mkc T.x_OtherChoices.kC hr (by rfl) T.x_OtherChoices.gC) (pa_cons (pe_lst pa_nil) (pa_cons (pe_lst pa_nil) pa_nil)))) (pa_cons (pe_tup (pa_cons (pe_xmk T.x_Taken.mkc T.x_Taken.kC hr (by rfl) T.x_Taken.gC (pa_cons (pv 1) pa_nil)) (pa_cons (pe_lst (pa_cons pe_str pa_nil)) (pa_cons (pe_lst (pa_cons (pv 1) pa_nil)) pa_nil)))) (pa_cons (pe_tup (pa_cons (pe_xmk T.x_Unready.mkc T.x_Unready.kC hr (by rfl) T.x_Unready.gC (pa_cons (pv 1) (pa_cons (pv 2) pa_nil))) (pa_cons (pe_lst (pa_cons pe_str (pa_cons pe_str pa_nil))) (pa_cons (pe_lst (pa_cons (pv 1) (pa_cons (pv 2) pa_nil))) pa_nil)))) (pa_cons (pe_tup (pa_cons (pe_xmk T.x_Opened.mkc T.x_Opened.kC hr (by rfl) T.x_Opened.gC (pa_cons (pv 1) pa_nil)) (pa_cons (pe_lst (pa_cons pe_str pa_nil)) (pa_cons (pe_lst (pa_cons (pv 1) pa_nil)) pa_nil)))) (pa_cons (pe_tup (pa_cons (pe_xmk T.x_NotOpen.mkc T.x_NotOpen.kC hr (by rfl) T.x_NotOpen.gC (pa_cons (pv 1) pa_nil)) (pa_cons (pe_lst (pa_cons pe_str pa_nil)) (pa_cons (pe_lst (pa_cons (pv 1) pa_nil)) pa_nil)))) (pa_cons (pe_tup (pa_cons (pe_xmk T.x_TooWide.mkc T.x_TooWide.kC hr (by rfl) T.x_TooWide.gC (pa_cons (pv 1) (pa_cons (pv 2) pa_nil))) (pa_cons (pe_lst (pa_cons pe_str (pa_cons pe_str pa_nil))) (pa_cons (pe_lst (pa_cons (pv 1) (pa_cons (pv 2) pa_nil))) pa_nil)))) (pa_cons (pe_tup (pa_cons (pe_xmk0 T.x_NotNumber.mkc T.x_NotNumber.kC hr (by rfl) T.x_NotNumber.gC) (pa_cons (pe_lst pa_nil) (pa_cons (pe_lst pa_nil) pa_nil)))) (pa_cons (pe_tup (pa_cons (pe_xmk T.x_Clash.mkc T.x_Clash.kC hr (by rfl) T.x_Clash.gC (pa_cons (pv 1) pa_nil)) (pa_cons (pe_lst (pa_cons pe_str pa_nil)) (pa_cons (pe_lst (pa_cons (pv 1) pa_nil)) pa_nil)))) (pa_cons (pe_tup (pa_cons (pe_xmk0 T.x_InvalidCommand.mkc T.x_InvalidCommand.kC hr (by rfl) T.x_InvalidCommand.gC) (pa_cons (pe_lst pa_nil) (pa_cons (pe_lst pa_nil) pa_nil)))) pa_nil)))))))))))))))), ?_⟩
  refine tRet_i (tLst_i (tCons_i (row1 (σ := [some p, some x, some y]) (i := 1) (x := x) rfl (fun t0 H0 s0 r0 => ?_))))
  refine tCons_i (row1 (σ := [some p, some x, some y]) (i := 1) (x := x) rfl (fun t1 H1 s1 r1 => ?_))
  refine tCons_i (row1 (σ := [some p, some x, some y]) (i := 1) (x := x) rfl (fun t2 H2 s2 r2 => ?_))
  refine tCons_i (row0 (σ := [some p, some x, some y]) (fun t3 H3 s3 r3 => ?_))
  refine tCons_i (row0 (σ := [some p, some x, some y]) (fun t4 H4 s4 r4 => ?_))
  refine tCons_i (row1 (σ := [some p, some x, some y]) (i := 1) (x := x) rfl (fun t5 H5 s5 r5 => ?_))
  refine tCons_i (row2 (σ := [some p, some x, some y]) (i := 1) (j := 2) (x := x) (y := y) rfl rfl (fun t6 H6 s6 r6 => ?_))
  refine tCons_i (row1 (σ := [some p, some x, some y]) (i := 1) (x := x) rfl (fun t7 H7 s7 r7 => ?_))
  refine tCons_i (row1 (σ := [some p, some x, some y]) (i := 1) (x := x) rfl (fun t8 H8 s8 r8 => ?_))
  refine tCons_i (row2 (σ := [some p, some x, some y]) (i := 1) (j := 2) (x := x) (y := y) rfl rfl (fun t9 H9 s9 r9 => ?_))
  refine tCons_i (row0 (σ := [some p, some x, some y]) (fun t10 H10 s10 r10 => ?_))
  refine tCons_i (row1 (σ := [some p, some x, some y]) (i := 1) (x := x) rfl (fun t11 H11 s11 r11 => ?_))
  refine tCons_i (row0 (σ := [some p, some x, some y]) (fun t12 H12 s12 r12 => ?_))
  refine ⟨by show 13 ≤ sizeLine; decide, fun l nl => ?_⟩
  have z13 := Same.new (o := .lst ([t0, t1, t2, t3, t4, t5, t6, t7, t8, t9, t10, t11, t12].map V.ref)) nl
  have z12 := s12.trans z13
  have z11 := s11.trans z12
  have z10 := s10.trans z11
  have z9 := s9.trans z10
  have z8 := s8.trans z9
  have z7 := s7.trans z8
  have z6 := s6.trans z7
  have z5 := s5.trans z6
  have z4 := s4.trans z5
  have z3 := s3.trans z4
  have z2 := s2.trans z3
  have z1 := s1.trans z2
  have z0 := s0.trans z1
  refine k l [t0, t1, t2, t3, t4, t5, t6, t7, t8, t9, t10, t11, t12] _ z0 upd_same rfl fun i t ht => ?_
  match i, ht with
  | 0, ht => cases ht; exact r0.same z1
  | 1, ht => cases ht; exact r1.same z2
  | 2, ht => cases ht; exact r2.same z3
  | 3, ht => cases ht; exact r3.same z4
  | 4, ht => cases ht; exact r4.same z5
  | 5, ht => cases ht; exact r5.same z6
  | 6, ht => cases ht; exact r6.same z7
  | 7, ht => cases ht; exact r7.same z8
  | 8, ht => cases ht; exact r8.same z9
  | 9, ht => cases ht; exact r9.same z10
  | 10, ht => cases ht; exact r10.same z11
  | 11, ht => cases ht; exact r11.same z12
  | 12, ht => cases ht; exact r12.same z13
  | n + 13, ht => simp at ht
theorem ok_parts (D : Def K mg "_law_parts" s_parts) (T : Txt P w K mg c hE) : HasFn P w K mg base CX0 1 "_law_parts" ["_law_error", "_law_at"] (spParts c) := by
  obtain ⟨f, fd, F, hm⟩ := D
  refine ⟨f, fd, F.ok sc_parts (fun vs H Q E h => ?_) (fun cdv A outer s H vs Q E hr h => ?_), hm, F.kp, F.binds fun _ _ _ _ _ _ us hl => match us, hl with | [_, _], _ => rfl⟩
  · obtain ⟨e, i, x, y, rfl, _⟩ := h
    rfl
  obtain ⟨e, i, x, y, rfl, hi, hE', k⟩ := h
  refine ⟨_, (pss_cons (ps_if (pt_cmpR op_in_seq (pv 1) (pe_tup (pa_cons pe_int (pa_cons pe_int (pa_cons pe_int (pa_cons pe_int (pa_cons pe_int (pa_cons pe_int pa_nil))))))) (by rfl))
  (pss_one (ps_ret (pe_lst (pa_cons (pe_xfld (pv 0)) pa_nil))))
  pss_nil)
  (pss_cons (ps_if (pt_cmpR op_eq (pv 1) pe_int (nomark _))
  (pss_one (ps_ret (pe_lst (pa_cons (pe_xfld (pv 0)) pa_nil))))
  pss_nil)
  (pss_cons (ps_if (pt_cmpR op_eq (pv 1) pe_int (nomark _))
  (pss_one (ps_ret (pe_lst (pa_cons (pe_xfld (pv 0)) (pa_cons (pe_xfld (pv 0)) pa_nil)))))
  pss_nil)
  (pss_one (ps_ret (pe_ifExp (pt_cmpR op_eq (pv 1) pe_int (nomark _)) (pe_lst (pa_cons (pe_xfld (pv 0)) (pa_cons (pe_xfld (pv 0)) pa_nil))) (pe_lst pa_nil))))))), ?_⟩
  refine ⟨_, rfl, by show 6 ≤ sizeLine; decide, fun t nt => ⟨t, _, rfl, .inr (SqT.of upd_same), rfl, rfl, _, rfl, ?_⟩⟩
  have s1 : Same H _ := Same.new (o := .tup [.int 0, .int 2, .int 5, .int 7, .int 8, .int 11]) nt
  have one : ∀ (f : Str) (x' : V), spec x y i = [(f, x')] → (∃ d, H e = some (exo e (c i) (some d)) ∧ H d = some (.xd [(f, x')])) := fun f x' q => by
    rw [q] at hE'
    rcases hE' with ⟨z, _⟩ | ⟨d, ha, hd⟩
    · cases z
    · exact ⟨d, ha, hd⟩
  have two : ∀ (f g : Str) (x' y' : V), spec x y i = [(f, x'), (g, y')] → (∃ d, H e = some (exo e (c i) (some d)) ∧ H d = some (.xd [(f, x'), (g, y')])) := fun f g x' y' q => by
    rw [q] at hE'
    rcases hE' with ⟨z, _⟩ | ⟨d, ha, hd⟩
    · cases z
    · exact ⟨d, ha, hd⟩
  have fin : ∀ l : List V, (spec x y i).map (·.2) = l → ∀ p, (upd H t (.tup [.int 0, .int 2, .int 5, .int 7, .int 8, .int 11])) p = none → Q (.ref p) (upd (upd H t (.tup [.int 0, .int 2, .int 5, .int 7, .int 8, .int 11])) p (.lst l)) := fun l q p np =>
    k p _ (s1.upd' np) (s1.free np) (by rw [q]; exact upd_same)
  match i, hi, one, two, fin with
  | 0, _, one, _, fin =>
    obtain ⟨d, ha, hd⟩ := one _ _ rfl
    exact iteB rfl ⟨_, rfl, e, _, d, _, _, rfl, s1 _ _ ha, s1 _ _ hd, T.x_InvalidName.xf, T.x_InvalidName.nf _ (by decide), rfl, by show 1 ≤ sizeLine; decide, fun p np => fin _ rfl p np⟩
  | 1, _, one, _, fin =>
    obtain ⟨d, ha, hd⟩ := one _ _ rfl
    exact iteN rfl ⟨_, rfl, rfl, _, rfl, iteB rfl ⟨_, rfl, e, _, d, _, _, rfl, s1 _ _ ha, s1 _ _ hd, T.x_InvalidText.xf, T.x_InvalidText.nf _ (by decide), rfl, by show 1 ≤ sizeLine; decide, fun p np => fin _ rfl p np⟩⟩
  | 2, _, one, _, fin =>
    obtain ⟨d, ha, hd⟩ := one _ _ rfl
    exact iteB rfl ⟨_, rfl, e, _, d, _, _, rfl, s1 _ _ ha, s1 _ _ hd, T.x_InvalidDeed.xf, T.x_InvalidDeed.nf _ (by decide), rfl, by show 1 ≤ sizeLine; decide, fun p np => fin _ rfl p np⟩
  | 3, _, _, _, fin => exact iteN rfl ⟨_, rfl, rfl, _, rfl, iteN rfl ⟨_, rfl, rfl, _, rfl, iteN rfl ⟨_, rfl, rfl, _, rfl, iteN rfl ⟨Nat.zero_le _, fun p np => fin _ rfl p np⟩⟩⟩⟩
  | 4, _, _, _, fin => exact iteN rfl ⟨_, rfl, rfl, _, rfl, iteN rfl ⟨_, rfl, rfl, _, rfl, iteN rfl ⟨_, rfl, rfl, _, rfl, iteN rfl ⟨Nat.zero_le _, fun p np => fin _ rfl p np⟩⟩⟩⟩
  | 5, _, one, _, fin =>
    obtain ⟨d, ha, hd⟩ := one _ _ rfl
    exact iteB rfl ⟨_, rfl, e, _, d, _, _, rfl, s1 _ _ ha, s1 _ _ hd, T.x_Taken.xf, T.x_Taken.nf _ (by decide), rfl, by show 1 ≤ sizeLine; decide, fun p np => fin _ rfl p np⟩
  | 6, _, _, two, fin =>
    obtain ⟨d, ha, hd⟩ := two _ _ _ _ rfl
    exact iteN rfl ⟨_, rfl, rfl, _, rfl, iteN rfl ⟨_, rfl, rfl, _, rfl, iteB rfl ⟨_, rfl, e, _, d, _, _, rfl, s1 _ _ ha, s1 _ _ hd, T.x_Unready.xf, T.x_Unready.nf _ (by decide), rfl, _, rfl, e, _, d, _, _, rfl, s1 _ _ ha, s1 _ _ hd, T.x_Unready.xf, T.x_Unready.nf _ (by decide), rfl, by show 2 ≤ sizeLine; decide, fun p np => fin _ rfl p np⟩⟩⟩
  | 7, _, one, _, fin =>
    obtain ⟨d, ha, hd⟩ := one _ _ rfl
    exact iteB rfl ⟨_, rfl, e, _, d, _, _, rfl, s1 _ _ ha, s1 _ _ hd, T.x_Opened.xf, T.x_Opened.nf _ (by decide), rfl, by show 1 ≤ sizeLine; decide, fun p np => fin _ rfl p np⟩
  | 8, _, one, _, fin =>
    obtain ⟨d, ha, hd⟩ := one _ _ rfl
    exact iteB rfl ⟨_, rfl, e, _, d, _, _, rfl, s1 _ _ ha, s1 _ _ hd, T.x_NotOpen.xf, T.x_NotOpen.nf _ (by decide), rfl, by show 1 ≤ sizeLine; decide, fun p np => fin _ rfl p np⟩
  | 9, _, _, two, fin =>
    obtain ⟨d, ha, hd⟩ := two _ _ _ _ rfl
    exact iteN rfl ⟨_, rfl, rfl, _, rfl, iteN rfl ⟨_, rfl, rfl, _, rfl, iteN rfl ⟨_, rfl, rfl, _, rfl, iteB rfl ⟨_, rfl, e, _, d, _, _, rfl, s1 _ _ ha, s1 _ _ hd, T.x_TooWide.xf, T.x_TooWide.nf _ (by decide), rfl, _, rfl, e, _, d, _, _, rfl, s1 _ _ ha, s1 _ _ hd, T.x_TooWide.xf, T.x_TooWide.nf _ (by decide), rfl, by show 2 ≤ sizeLine; decide, fun p np => fin _ rfl p np⟩⟩⟩⟩
  | 10, _, _, _, fin => exact iteN rfl ⟨_, rfl, rfl, _, rfl, iteN rfl ⟨_, rfl, rfl, _, rfl, iteN rfl ⟨_, rfl, rfl, _, rfl, iteN rfl ⟨Nat.zero_le _, fun p np => fin _ rfl p np⟩⟩⟩⟩
  | 11, _, one, _, fin =>
    obtain ⟨d, ha, hd⟩ := one _ _ rfl
    exact iteB rfl ⟨_, rfl, e, _, d, _, _, rfl, s1 _ _ ha, s1 _ _ hd, T.x_Clash.xf, T.x_Clash.nf _ (by decide), rfl, by show 1 ≤ sizeLine; decide, fun p np => fin _ rfl p np⟩
  | 12, _, _, _, fin => exact iteN rfl ⟨_, rfl, rfl, _, rfl, iteN rfl ⟨_, rfl, rfl, _, rfl, iteN rfl ⟨_, rfl, rfl, _, rfl, iteN rfl ⟨Nat.zero_le _, fun p np => fin _ rfl p np⟩⟩⟩⟩
  | n + 13, h, _, _, _ => omega
end
end Law

set_option Elab.async false
set_option linter.all false
set_option maxRecDepth 100000
set_option maxHeartbeats 4000000
namespace Law
open PySem L2
/-! ### lists of data as data -/
theorem good_list : ∀ {ds : List PyData}, (∀ d ∈ ds, Good d) → PyData.showableAll ds = true ∧ PyData.hasDictAll ds = false ∧ PyData.depthAll ds ≤ 50 ∧ ((PyData.shownAll ds).map (·.length)).sum ≤ 1000 * ds.length
  | [], _ => ⟨rfl, rfl, Nat.zero_le _, Nat.zero_le _⟩
  | d :: ds, h => by
    obtain ⟨h1, h2, h3, h4⟩ := good_list (ds := ds) fun e he => h e (List.mem_cons_of_mem _ he)
    obtain ⟨_, g2, g3, g4, g5⟩ := h d List.mem_cons_self
    refine ⟨by simp only [PyData.showableAll, g2, h1, Bool.and_self], by simp only [PyData.hasDictAll, g3, h2, Bool.or_self], by simp only [PyData.depthAll]; omega, ?_⟩
    simp only [PyData.shownAll, List.map_cons, List.sum_cons, List.length_cons]
    omega
theorem shows_list {ds : List PyData} (h : ∀ d ∈ ds, Good d) (hl : ds.length ≤ 100) : (PyData.list ds).showable = true ∧ (PyData.list ds).hasDict = false ∧ (PyData.list ds).depth ≤ 60 ∧ (PyData.list ds).shown.length ≤ sizeLine := by
  obtain ⟨h1, h2, h3, h4⟩ := good_list h
  refine ⟨by simp only [PyData.showable, h1], by simp only [PyData.hasDict, h2], by simp only [PyData.depth]; omega, ?_⟩
  have e : (PyData.list ds).shown = listText (PyData.shownAll ds) := by simp only [PyData.shown]
  rw [e]
  have := listText_len_le (PyData.shownAll ds)
  rw [PyData.shownAll_length] at this
  rw [sizeLine_eq]
  omega
theorem Good.shows {d : PyData} (h : Good d) : d.showable = true ∧ d.hasDict = false ∧ d.depth ≤ 60 ∧ d.shown.length ≤ sizeLine := by
  obtain ⟨_, h2, h3, h4, h5⟩ := h
  exact ⟨h2, h3, by omega, Nat.le_trans h5 (by rw [sizeLine_eq]; omega)⟩
theorem dp_bools {K : PySem.W.Frag} {H : Hp} : ∀ bs : List Bool, DpAll K H (bs.map V.bl) (bs.map PyData.bool)
  | [] => .nil
  | b :: bs => .cons (.bl b) (dp_bools bs)
theorem lay_bools : ∀ bs : List Bool, PyData.canLayAll0 (bs.map PyData.bool) = true
  | [] => rfl
  | b :: bs => by
    simp only [List.map_cons, PyData.canLayAll0, PyData.canLay0, lay_bools bs, Bool.and_self]
theorem depth_bools : ∀ bs : List Bool, PyData.depthAll (bs.map PyData.bool) = 0
  | [] => rfl
  | b :: bs => by simp only [List.map_cons, PyData.depthAll, PyData.depth, depth_bools bs, Nat.max_self]
theorem shaped_bools (bs : List Bool) : SeqAt.shaped (.list (bs.map PyData.bool)) = true := by
  unfold SeqAt.shaped
  rw [Bool.and_eq_true]
  exact ⟨by simp only [PyData.canLay0, lay_bools], decide_eq_true (by simp only [PyData.depth, depth_bools]; decide)⟩
theorem eqv_bools (bs : List Bool) : PyData.eqv (.list (bs.map PyData.bool)) (.list (bs.map PyData.bool)) = true := SeqAt.eqv_refl _ (SeqAt.canLay_of_shaped (shaped_bools bs))
/-- which data the fields are -/
theorem spec_data {K : PySem.W.Frag} {H : Hp} {x y : V} {d e : PyData} (hx : Dp K H x d) (hy : Dp K H y e) (gd : Good d) (ge : Good e) (i : Nat) : ∃ ds, DpAll K H ((spec x y i).map (·.2)) ds ∧ (∀ z ∈ ds, Good z) ∧ ds.length ≤ 100 := by
  have c : (spec x y i).map (·.2) = [] ∨ (spec x y i).map (·.2) = [x] ∨ (spec x y i).map (·.2) = [x, y] := by
    unfold spec
    split <;> simp
  rcases c with c | c | c
  · rw [c]
    exact ⟨[], .nil, fun z hz => (nomatch hz), by decide⟩
  · rw [c]
    exact ⟨[d], .cons hx .nil, fun z hz => by simp at hz; subst hz; exact gd, by show 1 ≤ 100; decide⟩
  · rw [c]
    exact ⟨[d, e], .cons hx (.cons hy .nil), fun z hz => by simp at hz; rcases hz with rfl | rfl <;> assumption, by show 2 ≤ 100; decide⟩
theorem Same.sqt {K : PySem.W.Frag} {H H' : Hp} (s : Same H H') : ∀ a xs, SqT K H a xs → SqT K H' a xs := fun a xs h => by
  rcases h with (h | ⟨o, h⟩) | h
  · exact .inl (.inl (s _ _ h))
  · exact .inl (.inr ⟨o, s _ _ h⟩)
  · exact .inr h
/-- the row of truths of the i-th class -/
def due (i : Nat) : List Bool := (List.range 14).map fun j => decide (i = j)
theorem due_eq (i : Nat) : (List.range 14).map (fun j => V.bl (decide (i = j))) = (due i).map V.bl := by
  unfold due
  rw [List.map_map]
  rfl
theorem due_eq2 (n : Nat) : (List.range 14).map (fun m => V.bl (decide (V.int (0 + (m : Nat)) = V.int ((n : Nat) : Int)))) = (due n).map V.bl := by
  unfold due
  rw [List.map_map]
  refine List.map_congr_left fun m _ => ?_
  show V.bl _ = V.bl _
  congr 1
  refine decide_eq_decide.mpr ⟨fun h => ?_, fun h => ?_⟩
  · have := V.int.inj h
    omega
  · rw [h]
    congr 1
    omega
def spLaw (K : PySem.W.Frag) : Sp := fun vs H Q _ => ∃ (a : Addr) (ns : List Int), vs = [.ref a] ∧ SqL K H a (ns.map V.int) ∧ ns.length ≤ 63 ∧ ∀ H', Q (.bl true) H'
section
variable {P : Program} {w : World} {K : PySem.W.Frag} {mg : Str → Option Value} {base : Heap} {c : Nat → Addr} {hE : Addr}
structure O2 (P : Program) (w : World) (K : PySem.W.Frag) (mg : Str → Option Value) (base : Heap) (c : Nat → Addr) : Prop extends O1 P w K mg base where
  law_thing : HasFn P w K mg base CX0 2 "_law_thing" ["_law_feed_here"] (spThing K)
  law_told : HasFn P w K mg base CX0 2 "_law_told" ["_law_feed_here", "_law_one", "_law_other"] (spTold c)
  law_sorts : HasFn P w K mg base CX0 1 "_law_sorts" ["_law_error"] (spSorts c)
  law_parts : HasFn P w K mg base CX0 1 "_law_parts" ["_law_error", "_law_at"] (spParts c)
theorem ok_law {f : Addr} {fd : FuncData} (F : Fun K "law" "law" s_law f fd) (T : Txt P w K mg c hE) (O : O2 P w K mg base c) : FnG P w K mg base CX0 3 f fd ["_law_script"] (spLaw K) := by
  refine F.okG sc_law (fun vs H Q E h => ?_) (fun cdv A outer s H vs Q E hgs hr h => ?_)
  · obtain ⟨a, ns, rfl, _⟩ := h
    rfl
  obtain ⟨a, ns, rfl, hS, hlen, k⟩ := h
  refine ⟨_, (pss_cons (ps_for PassesOwn.never rfl (pi_range1 (by rfl) T.n_range (pa_cons (pe_callB (call_max2 rfl) (by rfl) T.n_max (by decide +kernel) (pa_cons pe_int (pa_cons (pe_callB (call_min2 rfl) (by rfl) T.n_min (by decide +kernel) (pa_cons pe_int (pa_cons (pe_callB call_len_seq (by rfl) T.n_len (by decide +kernel) (pa_cons (pv 0) pa_nil)) pa_nil))) pa_nil))) pa_nil)) (pg_name (i := 1) sc_law.nd rfl (Or.inl rfl))
  (pss_cons (ps_set (i := 2) sc_law.nd rfl (Or.inl rfl) (pe_callO O.law_feed hr (by rfl) pass0 (pa_cons (pv 0) (pa_cons (pv 1) pa_nil))))
    (pss_cons (ps_par (i := 3) (j := 4) (by rfl) sc_law.nd rfl rfl (by decide) rfl rfl (pa_cons (pe_callO O.law_thing hr (by rfl) pass0 (pa_cons (pv 2) pa_nil)) (pa_cons (pe_callO O.law_thing hr (by rfl) pass0 (pa_cons (pv 2) pa_nil)) pa_nil)) (by rfl))
    (pss_cons (ps_for PassesOwn.never rfl (pi_enum (by rfl) T.n_enumerate (pa_cons (pe_callO O.law_told hr (by rfl) pass0 (pa_cons (pv 2) (pa_cons (pv 3) (pa_cons (pv 4) pa_nil)))) pa_nil)) (pg_tup rfl (pgs_cons (pg_name (i := 5) sc_law.nd rfl (Or.inr rfl)) (pgs_cons (pg_name (i := 6) sc_law.nd rfl (Or.inl rfl)) pgs_nil)))
    (pss_cons (ps_par (i := 7) (j := 8) (by rfl) sc_law.nd rfl rfl (by decide) rfl rfl (pa_cons (pe_ix ix_tup (pv 6) pe_int (fun _ _ => rfl)) (pa_cons (pe_lc (own := [("_law_place", 10)]) (g := gName 10) (tt := tYes) (by rfl) sc_law.nd (pi_range1 (by rfl) T.n_range (pa_cons pe_int pa_nil)) (blkOk_by (own := [("_law_place", 10)]) (N := ["_law_script", "_law_k", "_law_feed_here", "_law_one", "_law_other", "_law_at", "_law_row", "_law_error", "_law_due", "_law_last", "_law_place"]) (sc := defScope s_law) (by decide +kernel)) (fun _ _ _ _ _ => (pg_name (i := 10) sc_law.nd rfl (Or.inl rfl))) (fun _ _ _ _ _ => pts_nil) (fun _ _ _ _ _ => (pe_cmpR op_eq (pv 10) (pv 5) (nomark _)))) pa_nil)) (by rfl))
      (pss_cons (ps_if (PW.pt (pw_or (pt_not (pt_val (pe_callOG O.law_same hgs hr (by rfl) pass0 (pa_cons (pe_callO O.law_parts hr (by rfl) pass0 (pa_cons (pv 7) (pa_cons (pv 5) pa_nil))) (pa_cons (pe_ix ix_tup (pv 6) pe_int (fun _ _ => rfl)) pa_nil))))) (pw_or1 (pt_cmpR (op_neD hr.units) (pe_callO O.law_sorts hr (by rfl) pass0 (pa_cons (pv 7) pa_nil)) (pv 8) (nomark _)))))
      (pss_one (ps_ret pe_bl))
      pss_nil)
      (pss_one (ps_if (PW.pt (pw_or (pt_not (pt_val (pe_callB call_isX (by rfl) T.n_isinstance (by decide +kernel) (pa_cons (pv 7) (pa_cons (pe_glob (v := .ref hE) (by rfl) T.m_HadnotError rfl) pa_nil))))) (pw_or (pt_not (pt_val (pe_callB call_isX (by rfl) T.n_isinstance (by decide +kernel) (pa_cons (pv 7) (pa_cons (pe_bltn (v := .ty "ValueError") (by rfl) T.n_ValueError (by decide +kernel) rfl) pa_nil))))) (pw_or1 (pt_val (pe_callB call_isX (by rfl) T.n_isinstance (by decide +kernel) (pa_cons (pv 7) (pa_cons (pe_bltn (v := .ty "KeyError") (by rfl) T.n_KeyError (by decide +kernel) rfl) pa_nil))))))))
      (pss_one (ps_ret pe_bl))
      pss_nil)))))
    (pss_cons (ps_set (i := 9) sc_law.nd rfl (Or.inl rfl) (pe_xmk T.x_UnknownName.mkc T.x_UnknownName.kC hr (by rfl) T.x_UnknownName.gC (pa_cons (pv 3) pa_nil)))
    (pss_cons (ps_if (PW.pt (pw_or (pt_not (pt_val (pe_callOG O.law_same hgs hr (by rfl) pass0 (pa_cons (pe_xfld (pv 9)) (pa_cons (pv 3) pa_nil))))) (pw_or (pt_not (pt_val (pe_callB call_isX (by rfl) T.n_isinstance (by decide +kernel) (pa_cons (pv 9) (pa_cons (pe_bltn (v := .ty "KeyError") (by rfl) T.n_KeyError (by decide +kernel) rfl) pa_nil))))) (pw_or1 (pt_val (pe_callB call_isX (by rfl) T.n_isinstance (by decide +kernel) (pa_cons (pv 9) (pa_cons (pe_bltn (v := .ty "ValueError") (by rfl) T.n_ValueError (by decide +kernel) rfl) pa_nil))))))))
    (pss_one (ps_ret pe_bl))
    pss_nil)
    (pss_one (ps_if (PW.pt (pw_or (pt_cmpR (op_neD hr.units) (pe_callO O.law_sorts hr (by rfl) pass0 (pa_cons (pv 9) pa_nil)) (pe_op op_cat (pe_op op_rep (pe_lst (pa_cons pe_bl pa_nil)) pe_int) (pe_lst (pa_cons pe_bl pa_nil))) (nomark _)) (pw_or1 (pt_val (pe_callB call_isX (by rfl) T.n_isinstance (by decide +kernel) (pa_cons (pv 9) (pa_cons (pe_glob (v := .ref hE) (by rfl) T.m_HadnotError rfl) pa_nil)))))))
    (pss_one (ps_ret pe_bl))
    pss_nil))))))))
  (pss_one (ps_ret pe_bl))), ?_⟩
  refine ⟨_, rfl, a, _, rfl, .inl hS, _, _, rfl, _, _, rfl, _, rfl, by split <;> split <;> omega, by split <;> split <;> omega, for_range (lo := 0) (fun i σ H1 => ∃ v1 v2 v3 v4 v5 v6 v7 v8 v9 v10 : Option V, σ = [some (.ref a), v1, v2, v3, v4, v5, v6, v7, v8, v9, v10] ∧ Same H H1)
    ⟨_, _, _, _, _, _, _, _, _, _, rfl, Same.refl H⟩ ?_ ?_⟩
  rotate_left
  · rintro σ H1 _
    exact k H1
  rintro i σ H1 hi ⟨v1, v2, v3, v4, v5, v6, v7, v8, v9, v10, rfl, s1⟩
  have hi3 : (0 : Int) + (i : Nat) < 1000 := by
    split at hi <;> split at hi <;> omega
  -- the feed
  refine ⟨_, rfl, _, rfl, a, ns, _, rfl, s1.seq hS, hlen, by omega, hi3, fun p own st np o0 u0 u1 => ?_⟩
  -- the two values
  refine ⟨_, rfl, p, own, st, rfl, upd_same, o0, u0, u1, fun x d own1 st1 H2 b2 hp2 o1 w0 w1 dx gx => ?_⟩
  refine ⟨_, rfl, p, own1, st1, rfl, hp2, o1, w0, w1, fun y e own2 st2 H3 b3 hp3 _ _ _ dy ge => ⟨_, _, rfl, ?_⟩⟩
  have dx3 : Dp K H3 x d := Dp.tups (fun _ _ => SqT.but b3 hp2) dx gx.1
  have s3 : Same H H3 := fun b o q => by
    have q1 := s1 b o q
    have nb : b ≠ p := ne_of_none q1 np
    exact b3 b o nb (b2 b o nb (by rw [upd_ne nb]; exact q1))
  -- the list of errors
  refine ⟨_, rfl, _, rfl, _, rfl, _, x, y, rfl, fun L ts H4 s4 hL hts hrow => ⟨L, _, rfl, SqL.of hL, for_it walk_enum (fun n σ H5 => ∃ v5 v6 v7 v8 v9 v10 : Option V, σ = [some (.ref a), some (.int (0 + (i : Nat))), some (.ref p), some x, some y, v5, v6, v7, v8, v9, v10] ∧ Same H4 H5)
    ⟨_, _, _, _, _, _, rfl, Same.refl H4⟩ (fun n σ H5 _ ⟨_, _, _, _, _, _, _, s5⟩ => s5.seq (SqL.of hL)) ?_ ?_⟩⟩
  · rintro n it σ H5 H5' hn ⟨v5, v6, v7, v8, v9, v10, rfl, s5⟩ ⟨t0, z1, z2, rfl, nt0, rfl, hz1, hz2⟩
    rw [List.length_map, hts] at hn
    cases hz1
    obtain ⟨t, ht, rfl⟩ : ∃ t, ts[n]? = some t ∧ z2 = V.ref t := by
      have hz2 : (ts.map V.ref)[n]? = some z2 := hz2
      rw [List.getElem?_map] at hz2
      cases q : ts[n]? with
      | none => rw [q] at hz2; cases hz2
      | some t => rw [q] at hz2; exact ⟨t, rfl, (Option.some.inj hz2).symm⟩
    have s5' := s5.upd' (o := .tup [.int ((n : Nat) : Int), .ref t]) nt0
    have R := (hrow n t ht).same s5'
    obtain ⟨er, nl, vl, ht', hX, hV⟩ := R
    refine ⟨t0, _, rfl, SqT.of upd_same, rfl, _, _, rfl, _, _, rfl, rfl, ?_⟩
    generalize hH6 : upd H5 t0 (.tup [.int ((n : Nat) : Int), .ref t]) = H6 at *
    -- error, due
    refine ⟨_, rfl, t, _, 0, _, rfl, rfl, SqT.of ht', rfl, _, rfl, by decide, by decide, fun D nD => lc_range (lo := 0) (n := 14) (fun j H7 => H7 = upd H6 D (.lst ((List.range j).map fun m => V.bl (decide (V.int (0 + (m : Nat)) = V.int ((n : Nat) : Int)))))) rfl ?_ ?_⟩
    · rintro j H7 hj rfl
      refine ⟨rfl, ?_⟩
      simp only [tYes, if_true]
      refine ⟨_, rfl, _, rfl, rfl, _, upd_same, ?_, ?_⟩
      · rw [List.length_map, List.length_range, sizeLine_eq]
        omega
      · rw [upd_upd, List.range_succ, List.map_append]
        rfl
    rintro _ rfl
    rw [due_eq2]
    refine ⟨_, _, rfl, ?_⟩
    have s8 := Same.new (o := .lst ((due n).map V.bl)) nD
    have hD8 := upd_same (H := H6) (a := D) (o := .lst ((due n).map V.bl))
    generalize upd H6 D (.lst ((due n).map V.bl)) = H8 at *
    have t8 := s8 _ _ ht'
    have x8 := ExAt.same s8 hX
    have v8 := s8 _ _ hV
    have b8 : Same H3 H8 := s4.trans (s5'.trans s8)
    -- the parts
    refine ⟨_, rfl, _, rfl, er, n, x, y, rfl, hn, x8, fun q H9 s9 nq hq => ?_⟩
    have b9 := b8.trans s9
    obtain ⟨ds, hds, gds, lds⟩ := spec_data (Dp.tups (Same.sqt b9) dx3 gx.1) (Dp.tups (Same.sqt b9) dy ge.1) gx ge n
    obtain ⟨g1, g2, g3, g4⟩ := shows_list gds lds
    refine ⟨_, rfl, t, _, 2, _, rfl, rfl, SqT.of (s9 _ _ t8), rfl, _, _, .list ds, .list ds, rfl, ⟨.lst (SqL.of hq) hds, g1, g2, g3, g4⟩, ⟨.lst (SqL.of (s9 _ _ v8)) hds, g1, g2, g3, g4⟩, _, rfl, iteNS rfl ?_⟩
    -- the classes
    refine ⟨_, rfl, er, n, _, rfl, by omega, ExAt.same s9 x8, fun q2 nq2 => ?_⟩
    rw [due_eq]
    have s10 := Same.new (o := .lst ((due n).map V.bl)) nq2
    have hq2 := upd_same (H := H9) (a := q2) (o := .lst ((due n).map V.bl))
    generalize upd H9 q2 (.lst ((due n).map V.bl)) = H10 at *
    refine ⟨_, rfl, _, _, .lst (SqL.of hq2) (dp_bools (due n)), .lst (SqL.of (s10 _ _ (s9 _ _ hD8))) (dp_bools (due n)), shaped_bools _, shaped_bools _, _, rfl, iteN (by rw [eqv_bools]; rfl) ?_⟩
    have x10 := ExAt.same s10 (ExAt.same s9 x8)
    have hn14 : n < 14 := by omega
    -- the bases
    refine ⟨_, rfl, er, _, _, _, .ref hE, _, rfl, x10, T.isb n hn14, (fun _ h => h), T.kitH n hn14, _, rfl, iteNS (by omega) ?_⟩
    refine ⟨_, rfl, er, _, _, _, .type "ValueError", _, rfl, x10, T.isb n hn14, (fun _ h => h), T.kitV n hn14, _, rfl, iteNS (by omega) ?_⟩
    refine ⟨_, rfl, er, _, _, _, .type "KeyError", _, rfl, x10, T.isb n hn14, (fun _ h => h), T.kitK n hn14, _, rfl, iteN (decide_eq_false (by omega)) ?_⟩
    exact ⟨_, _, _, _, _, _, rfl, s5'.trans (s8.trans (s9.trans s10))⟩
  · rintro σ H5 ⟨v5, v6, v7, v8, v9, v10, rfl, s5⟩
    have b5 : Same H3 H5 := s4.trans s5
    -- the last error
    refine ⟨_, rfl, rfl, fun dd ee nd ne hde => ?_⟩
    have ne' : (upd H5 dd (.xd [(("name" : Str), x)])) ee = none := by rw [upd_ne (Ne.symm hde)]; exact ne
    have s6 := (Same.new (o := .xd [(("name" : Str), x)]) nd).upd' (o := exo ee (c 13) (some dd)) ne'
    have e1 := upd_same (H := upd H5 dd (.xd [(("name" : Str), x)])) (a := ee) (o := exo ee (c 13) (some dd))
    have e2 := Eq.trans (upd_ne (o := exo ee (c 13) (some dd)) hde) (upd_same (H := H5) (a := dd) (o := .xd [(("name" : Str), x)]))
    have b6 : Same H3 _ := b5.trans s6
    have b6' : Same H _ := s3.trans b6
    refine (?_ : (tSeq _ _ : TS) _ _ (upd (upd H5 dd (.xd [(("name" : Str), x)])) ee (exo ee (c 13) (some dd))))
    generalize upd (upd H5 dd (.xd [(("name" : Str), x)])) ee (exo ee (c 13) (some dd)) = H6 at *
    have x6 : ExAt H6 ee (c 13) [("name", x)] := .inr ⟨dd, e1, e2⟩
    have dx6 := Dp.tups (Same.sqt b6) dx3 gx.1
    obtain ⟨g1, g2, g3, g4⟩ := gx.shows
    refine ⟨_, rfl, ee, _, dd, _, x, rfl, e1, e2, T.x_UnknownName.xf, T.x_UnknownName.nf _ (by decide), rfl, _, rfl, x, x, d, d, rfl, ⟨dx6, g1, g2, g3, g4⟩, ⟨dx6, g1, g2, g3, g4⟩, _, rfl, iteNS rfl ?_⟩
    refine ⟨_, rfl, ee, _, _, _, .type "KeyError", _, rfl, x6, T.isb 13 (by decide), (fun _ h => h), T.kitK 13 (by decide), _, rfl, iteNS rfl ?_⟩
    refine ⟨_, rfl, ee, _, _, _, .type "ValueError", _, rfl, x6, T.isb 13 (by decide), (fun _ h => h), T.kitV 13 (by decide), _, rfl, iteN (by decide) ?_⟩
    refine ⟨_, rfl, ee, 13, _, rfl, by decide, x6, fun q nq => ?_⟩
    rw [due_eq]
    have s7 := Same.new (o := .lst ((due 13).map V.bl)) nq
    have hq := upd_same (H := H6) (a := q) (o := .lst ((due 13).map V.bl))
    generalize upd H6 q (.lst ((due 13).map V.bl)) = H7 at *
    refine ⟨by show 1 ≤ sizeLine; decide, fun l1 n1 => ⟨l1, 13, _, rfl, rfl, upd_same, by decide, by decide, by decide, fun l2 n2 => ⟨by show 1 ≤ sizeLine; decide, fun l3 n3 => ⟨l2, l3, _, _, rfl, rfl, Same.new n3 _ _ upd_same, upd_same, by decide, fun l4 n4 => ?_⟩⟩⟩⟩
    have s8 := (((Same.new (o := .lst [V.bl false]) n1).upd' n2).upd' n3).upd' (o := .lst ((List.replicate (Int.toNat 13) [V.bl false]).flatten ++ [V.bl true])) n4
    have x8 := ExAt.same s8 (ExAt.same s7 x6)
    refine ⟨_, _, .lst (SqL.of (s8 _ _ hq)) (dp_bools (due 13)), .lst (SqL.of upd_same) (dp_bools (due 13)), shaped_bools _, shaped_bools _, _, rfl, iteN (by rw [eqv_bools]; rfl) ?_⟩
    refine ⟨_, rfl, ee, _, _, _, .ref hE, _, rfl, x8, T.isb 13 (by decide), (fun _ h => h), T.kitH 13 (by decide), _, rfl, iteN (by decide) ?_⟩
    exact ⟨_, _, _, _, _, _, _, _, _, _, rfl, b6'.trans (s7.trans s8)⟩
end
end Law

set_option Elab.async false
set_option linter.all false
set_option maxRecDepth 100000
set_option maxHeartbeats 4000000
namespace Law
open PySem L2
abbrev c_InvalidName : Stmt := inClass (top 2) 0
abbrev c_InvalidText : Stmt := inClass (top 3) 0
abbrev c_InvalidDeed : Stmt := inClass (top 4) 0
abbrev c_NoRatio : Stmt := inClass (top 5) 0
abbrev c_OtherChoices : Stmt := inClass (top 6) 0
abbrev c_Taken : Stmt := inClass (top 7) 0
abbrev c_Unready : Stmt := inClass (top 8) 0
abbrev c_Opened : Stmt := inClass (top 9) 0
abbrev c_NotOpen : Stmt := inClass (top 10) 0
abbrev c_TooWide : Stmt := inClass (top 11) 0
abbrev c_NotNumber : Stmt := inClass (top 12) 0
abbrev c_Clash : Stmt := inClass (top 13) 0
abbrev c_InvalidCommand : Stmt := inClass (top 14) 0
abbrev c_UnknownName : Stmt := inClass (top 15) 0
def kitB (K : PySem.W.Frag) (cs : List Addr) (hE : Addr) : Bool := (List.range 14).all fun i => ((List.range 14).all fun j => decide (PySem.W.kitOne K (.ref (cs.getD i 0)) (.ref (cs.getD j 0)) = some (decide (i = j)))) &&
  (decide (PySem.W.kitOne K (.ref (cs.getD i 0)) (.ref hE) = some (decide (i ≠ 13))) && (decide (PySem.W.kitOne K (.ref (cs.getD i 0)) (.type "ValueError") = some (decide (i ≠ 13))) && decide (PySem.W.kitOne K (.ref (cs.getD i 0)) (.type "KeyError") = some (decide (i = 13)))))
theorem kitB_ok {K : PySem.W.Frag} {cs : List Addr} {hE : Addr} (h : kitB K cs hE = true) (i : Nat) (hi : i < 14) : (∀ j, j < 14 → PySem.W.kitOne K (.ref (cs.getD i 0)) (.ref (cs.getD j 0)) = some (decide (i = j))) ∧ PySem.W.kitOne K (.ref (cs.getD i 0)) (.ref hE) = some (decide (i ≠ 13)) ∧
    PySem.W.kitOne K (.ref (cs.getD i 0)) (.type "ValueError") = some (decide (i ≠ 13)) ∧ PySem.W.kitOne K (.ref (cs.getD i 0)) (.type "KeyError") = some (decide (i = 13)) := by
  have h1 := List.all_eq_true.mp h i (List.mem_range.mpr hi)
  obtain ⟨h2, h3⟩ := Bool.and_eq_true_iff.mp h1
  obtain ⟨h4, h5⟩ := Bool.and_eq_true_iff.mp h3
  obtain ⟨h6, h7⟩ := Bool.and_eq_true_iff.mp h5
  exact ⟨fun j hj => of_decide_eq_true (List.all_eq_true.mp h2 j (List.mem_range.mpr hj)), of_decide_eq_true h4, of_decide_eq_true h6, of_decide_eq_true h7⟩
theorem all_mk {w : World} {K : PySem.W.Frag} {h : Heap} {mg : Str → Option Value} {hE fa f_feed f_take f_same f_thing f_told f_sorts f_parts f_law C0 I0 cc0 ca0 C1 I1 cc1 ca1 C2 I2 cc2 ca2 C3 I3 cc3 ca3 C4 I4 cc4 ca4 C5 I5 cc5 ca5 C6 I6 cc6 ca6 C7 I7 cc7 ca7 C8 I8 cc8 ca8 C9 I9 cc9 ca9 C10 I10 cc10 ca10 C11 I11 cc11 ca11 C12 I12 cc12 ca12 C13 I13 cc13 ca13 : Addr} {oc_feed kV_feed dc_feed pm_feed cd_feed ct_feed oc_take kV_take dc_take pm_take cd_take ct_take oc_same kV_same dc_same pm_same cd_same ct_same oc_thing kV_thing dc_thing pm_thing cd_thing ct_thing oc_told kV_told dc_told pm_told cd_told ct_told oc_sorts kV_sorts dc_sorts pm_sorts cd_sorts ct_sorts oc_parts kV_parts dc_parts pm_parts cd_parts ct_parts oc_law kV_law dc_law pm_law cd_law ct_law xoc0 xdc0 xpm0 xct0 xcl0 xccl0 xoc1 xdc1 xpm1 xct1 xcl1 xccl1 xoc2 xdc2 xpm2 xct2 xcl2 xccl2 xoc3 xdc3 xpm3 xct3 xcl3 xccl3 xoc4 xdc4 xpm4 xct4 xcl4 xccl4 xoc5 xdc5 xpm5 xct5 xcl5 xccl5 xoc6 xdc6 xpm6 xct6 xcl6 xccl6 xoc7 xdc7 xpm7 xct7 xcl7 xccl7 xoc8 xdc8 xpm8 xct8 xcl8 xccl8 xoc9 xdc9 xpm9 xct9 xcl9 xccl9 xoc10 xdc10 xpm10 xct10 xcl10 xccl10 xoc11 xdc11 xpm11 xct11 xcl11 xccl11 xoc12 xdc12 xpm12 xct12 xcl12 xccl12 xoc13 xdc13 xpm13 xct13 xcl13 xccl13 : Value} {od_feed an_feed od_take an_take od_same an_same od_thing an_thing od_told an_told od_sorts an_sorts od_parts an_parts od_law an_law xod0 xan0 xcld0 xcdd0 xod1 xan1 xcld1 xcdd1 xod2 xan2 xcld2 xcdd2 xod3 xan3 xcld3 xcdd3 xod4 xan4 xcld4 xcdd4 xod5 xan5 xcld5 xcdd5 xod6 xan6 xcld6 xcdd6 xod7 xan7 xcld7 xcdd7 xod8 xan8 xcld8 xcdd8 xod9 xan9 xcld9 xcdd9 xod10 xan10 xcld10 xcdd10 xod11 xan11 xcld11 xcdd11 xod12 xan12 xcld12 xcdd12 xod13 xan13 xcld13 xcdd13 : Option Addr} {sl_feed sl_take sl_same sl_thing sl_told sl_sorts sl_parts sl_law xosl0 xcsl0 xccs0 xosl1 xcsl1 xccs1 xosl2 xcsl2 xccs2 xosl3 xcsl3 xccs3 xosl4 xcsl4 xccs4 xosl5 xcsl5 xccs5 xosl6 xcsl6 xccs6 xosl7 xcsl7 xccs7 xosl8 xcsl8 xccs8 xosl9 xcsl9 xccs9 xosl10 xcsl10 xccs10 xosl11 xcsl11 xccs11 xosl12 xcsl12 xccs12 xosl13 xcsl13 xccs13 : Array (Option Value)} {xvs0 xvs1 xvs2 xvs3 xvs4 xvs5 xvs6 xvs7 xvs8 xvs9 xvs10 xvs11 xvs12 xvs13 : Array Value}
    (X : K.In h) (G : h.Ns mainGlobals mg) (hfa : mg "law" = some (.ref fa))
    (a_feed : PySem.W.nsIn K mainGlobals "_law_feed" = some (some (.ref f_feed)))
    (l_feed : K.lookup f_feed = some ⟨oc_feed, od_feed, .func (PySem.W.fnOf "_law_feed" "_law_feed" (defArgs s_feed) (defBody s_feed) (defScope s_feed) .none kV_feed dc_feed pm_feed an_feed cd_feed ct_feed), sl_feed⟩)
    (c_feed : PySem.W.codeIn K cd_feed "_law_feed" = true)
    (k_feed : PySem.W.keepIn K (.ref f_feed) = true)
    (a_take : PySem.W.nsIn K mainGlobals "_law_take" = some (some (.ref f_take)))
    (l_take : K.lookup f_take = some ⟨oc_take, od_take, .func (PySem.W.fnOf "_law_take" "_law_take" (defArgs s_take) (defBody s_take) (defScope s_take) .none kV_take dc_take pm_take an_take cd_take ct_take), sl_take⟩)
    (c_take : PySem.W.codeIn K cd_take "_law_take" = true)
    (k_take : PySem.W.keepIn K (.ref f_take) = true)
    (a_same : PySem.W.nsIn K mainGlobals "_law_same" = some (some (.ref f_same)))
    (l_same : K.lookup f_same = some ⟨oc_same, od_same, .func (PySem.W.fnOf "_law_same" "_law_same" (defArgs s_same) (defBody s_same) (defScope s_same) .none kV_same dc_same pm_same an_same cd_same ct_same), sl_same⟩)
    (c_same : PySem.W.codeIn K cd_same "_law_same" = true)
    (k_same : PySem.W.keepIn K (.ref f_same) = true)
    (a_thing : PySem.W.nsIn K mainGlobals "_law_thing" = some (some (.ref f_thing)))
    (l_thing : K.lookup f_thing = some ⟨oc_thing, od_thing, .func (PySem.W.fnOf "_law_thing" "_law_thing" (defArgs s_thing) (defBody s_thing) (defScope s_thing) .none kV_thing dc_thing pm_thing an_thing cd_thing ct_thing), sl_thing⟩)
    (c_thing : PySem.W.codeIn K cd_thing "_law_thing" = true)
    (k_thing : PySem.W.keepIn K (.ref f_thing) = true)
    (a_told : PySem.W.nsIn K mainGlobals "_law_told" = some (some (.ref f_told)))
    (l_told : K.lookup f_told = some ⟨oc_told, od_told, .func (PySem.W.fnOf "_law_told" "_law_told" (defArgs s_told) (defBody s_told) (defScope s_told) .none kV_told dc_told pm_told an_told cd_told ct_told), sl_told⟩)
    (c_told : PySem.W.codeIn K cd_told "_law_told" = true)
    (k_told : PySem.W.keepIn K (.ref f_told) = true)
    (a_sorts : PySem.W.nsIn K mainGlobals "_law_sorts" = some (some (.ref f_sorts)))
    (l_sorts : K.lookup f_sorts = some ⟨oc_sorts, od_sorts, .func (PySem.W.fnOf "_law_sorts" "_law_sorts" (defArgs s_sorts) (defBody s_sorts) (defScope s_sorts) .none kV_sorts dc_sorts pm_sorts an_sorts cd_sorts ct_sorts), sl_sorts⟩)
    (c_sorts : PySem.W.codeIn K cd_sorts "_law_sorts" = true)
    (k_sorts : PySem.W.keepIn K (.ref f_sorts) = true)
    (a_parts : PySem.W.nsIn K mainGlobals "_law_parts" = some (some (.ref f_parts)))
    (l_parts : K.lookup f_parts = some ⟨oc_parts, od_parts, .func (PySem.W.fnOf "_law_parts" "_law_parts" (defArgs s_parts) (defBody s_parts) (defScope s_parts) .none kV_parts dc_parts pm_parts an_parts cd_parts ct_parts), sl_parts⟩)
    (c_parts : PySem.W.codeIn K cd_parts "_law_parts" = true)
    (k_parts : PySem.W.keepIn K (.ref f_parts) = true)
    (a_law : PySem.W.nsIn K mainGlobals "law" = some (some (.ref f_law)))
    (l_law : K.lookup f_law = some ⟨oc_law, od_law, .func (PySem.W.fnOf "law" "law" (defArgs s_law) (defBody s_law) (defScope s_law) .none kV_law dc_law pm_law an_law cd_law ct_law), sl_law⟩)
    (c_law : PySem.W.codeIn K cd_law "law" = true)
    (k_law : PySem.W.keepIn K (.ref f_law) = true)
    (xa0 : PySem.W.nsIn K mainGlobals "InvalidName" = some (some (.ref C0)))
    (xi0 : PySem.W.findIn K (.ref C0) "__init__" = some (some (.ref I0)))
    (xl0 : K.lookup I0 = some ⟨xoc0, xod0, .func (PySem.W.ksFn "__init__" "InvalidName.__init__" (defArgs c_InvalidName) (defBody c_InvalidName) (defScope c_InvalidName) .none .none xdc0 xpm0 xan0 (.ref ca0) xct0 cc0), xosl0⟩)
    (xc0 : K.lookup cc0 = some ⟨xcl0, xcld0, .cell (some (.ref C0)), xcsl0⟩)
    (xk0 : K.lookup ca0 = some ⟨xccl0, xcdd0, .fields xvs0, xccs0⟩)
    (xd0 : PySem.W.codeIn K (.ref ca0) "InvalidName.__init__" = true)
    (xb0 : ownB K C0 I0 "ValueError.__new__" "ValueError" "ValueError.__init__" PySem.XS.veT ["name"] = true)
    (xv0 : ∃ tf, xvs0[2]? = some (.str "/claim/cut.py" tf))
    (xa1 : PySem.W.nsIn K mainGlobals "InvalidText" = some (some (.ref C1)))
    (xi1 : PySem.W.findIn K (.ref C1) "__init__" = some (some (.ref I1)))
    (xl1 : K.lookup I1 = some ⟨xoc1, xod1, .func (PySem.W.ksFn "__init__" "InvalidText.__init__" (defArgs c_InvalidText) (defBody c_InvalidText) (defScope c_InvalidText) .none .none xdc1 xpm1 xan1 (.ref ca1) xct1 cc1), xosl1⟩)
    (xc1 : K.lookup cc1 = some ⟨xcl1, xcld1, .cell (some (.ref C1)), xcsl1⟩)
    (xk1 : K.lookup ca1 = some ⟨xccl1, xcdd1, .fields xvs1, xccs1⟩)
    (xd1 : PySem.W.codeIn K (.ref ca1) "InvalidText.__init__" = true)
    (xb1 : ownB K C1 I1 "ValueError.__new__" "ValueError" "ValueError.__init__" PySem.XS.veT ["row"] = true)
    (xv1 : ∃ tf, xvs1[2]? = some (.str "/claim/cut.py" tf))
    (xa2 : PySem.W.nsIn K mainGlobals "InvalidDeed" = some (some (.ref C2)))
    (xi2 : PySem.W.findIn K (.ref C2) "__init__" = some (some (.ref I2)))
    (xl2 : K.lookup I2 = some ⟨xoc2, xod2, .func (PySem.W.ksFn "__init__" "InvalidDeed.__init__" (defArgs c_InvalidDeed) (defBody c_InvalidDeed) (defScope c_InvalidDeed) .none .none xdc2 xpm2 xan2 (.ref ca2) xct2 cc2), xosl2⟩)
    (xc2 : K.lookup cc2 = some ⟨xcl2, xcld2, .cell (some (.ref C2)), xcsl2⟩)
    (xk2 : K.lookup ca2 = some ⟨xccl2, xcdd2, .fields xvs2, xccs2⟩)
    (xd2 : PySem.W.codeIn K (.ref ca2) "InvalidDeed.__init__" = true)
    (xb2 : ownB K C2 I2 "ValueError.__new__" "ValueError" "ValueError.__init__" PySem.XS.veT ["name"] = true)
    (xv2 : ∃ tf, xvs2[2]? = some (.str "/claim/cut.py" tf))
    (xa3 : PySem.W.nsIn K mainGlobals "NoRatio" = some (some (.ref C3)))
    (xi3 : PySem.W.findIn K (.ref C3) "__init__" = some (some (.ref I3)))
    (xl3 : K.lookup I3 = some ⟨xoc3, xod3, .func (PySem.W.ksFn "__init__" "NoRatio.__init__" (defArgs c_NoRatio) (defBody c_NoRatio) (defScope c_NoRatio) .none .none xdc3 xpm3 xan3 (.ref ca3) xct3 cc3), xosl3⟩)
    (xc3 : K.lookup cc3 = some ⟨xcl3, xcld3, .cell (some (.ref C3)), xcsl3⟩)
    (xk3 : K.lookup ca3 = some ⟨xccl3, xcdd3, .fields xvs3, xccs3⟩)
    (xd3 : PySem.W.codeIn K (.ref ca3) "NoRatio.__init__" = true)
    (xb3 : ownB K C3 I3 "ValueError.__new__" "ValueError" "ValueError.__init__" PySem.XS.veT [] = true)
    (xv3 : ∃ tf, xvs3[2]? = some (.str "/claim/cut.py" tf))
    (xa4 : PySem.W.nsIn K mainGlobals "OtherChoices" = some (some (.ref C4)))
    (xi4 : PySem.W.findIn K (.ref C4) "__init__" = some (some (.ref I4)))
    (xl4 : K.lookup I4 = some ⟨xoc4, xod4, .func (PySem.W.ksFn "__init__" "OtherChoices.__init__" (defArgs c_OtherChoices) (defBody c_OtherChoices) (defScope c_OtherChoices) .none .none xdc4 xpm4 xan4 (.ref ca4) xct4 cc4), xosl4⟩)
    (xc4 : K.lookup cc4 = some ⟨xcl4, xcld4, .cell (some (.ref C4)), xcsl4⟩)
    (xk4 : K.lookup ca4 = some ⟨xccl4, xcdd4, .fields xvs4, xccs4⟩)
    (xd4 : PySem.W.codeIn K (.ref ca4) "OtherChoices.__init__" = true)
    (xb4 : ownB K C4 I4 "ValueError.__new__" "ValueError" "ValueError.__init__" PySem.XS.veT [] = true)
    (xv4 : ∃ tf, xvs4[2]? = some (.str "/claim/cut.py" tf))
    (xa5 : PySem.W.nsIn K mainGlobals "Taken" = some (some (.ref C5)))
    (xi5 : PySem.W.findIn K (.ref C5) "__init__" = some (some (.ref I5)))
    (xl5 : K.lookup I5 = some ⟨xoc5, xod5, .func (PySem.W.ksFn "__init__" "Taken.__init__" (defArgs c_Taken) (defBody c_Taken) (defScope c_Taken) .none .none xdc5 xpm5 xan5 (.ref ca5) xct5 cc5), xosl5⟩)
    (xc5 : K.lookup cc5 = some ⟨xcl5, xcld5, .cell (some (.ref C5)), xcsl5⟩)
    (xk5 : K.lookup ca5 = some ⟨xccl5, xcdd5, .fields xvs5, xccs5⟩)
    (xd5 : PySem.W.codeIn K (.ref ca5) "Taken.__init__" = true)
    (xb5 : ownB K C5 I5 "ValueError.__new__" "ValueError" "ValueError.__init__" PySem.XS.veT ["name"] = true)
    (xv5 : ∃ tf, xvs5[2]? = some (.str "/claim/cut.py" tf))
    (xa6 : PySem.W.nsIn K mainGlobals "Unready" = some (some (.ref C6)))
    (xi6 : PySem.W.findIn K (.ref C6) "__init__" = some (some (.ref I6)))
    (xl6 : K.lookup I6 = some ⟨xoc6, xod6, .func (PySem.W.ksFn "__init__" "Unready.__init__" (defArgs c_Unready) (defBody c_Unready) (defScope c_Unready) .none .none xdc6 xpm6 xan6 (.ref ca6) xct6 cc6), xosl6⟩)
    (xc6 : K.lookup cc6 = some ⟨xcl6, xcld6, .cell (some (.ref C6)), xcsl6⟩)
    (xk6 : K.lookup ca6 = some ⟨xccl6, xcdd6, .fields xvs6, xccs6⟩)
    (xd6 : PySem.W.codeIn K (.ref ca6) "Unready.__init__" = true)
    (xb6 : ownB K C6 I6 "ValueError.__new__" "ValueError" "ValueError.__init__" PySem.XS.veT ["where", "name"] = true)
    (xv6 : ∃ tf, xvs6[2]? = some (.str "/claim/cut.py" tf))
    (xa7 : PySem.W.nsIn K mainGlobals "Opened" = some (some (.ref C7)))
    (xi7 : PySem.W.findIn K (.ref C7) "__init__" = some (some (.ref I7)))
    (xl7 : K.lookup I7 = some ⟨xoc7, xod7, .func (PySem.W.ksFn "__init__" "Opened.__init__" (defArgs c_Opened) (defBody c_Opened) (defScope c_Opened) .none .none xdc7 xpm7 xan7 (.ref ca7) xct7 cc7), xosl7⟩)
    (xc7 : K.lookup cc7 = some ⟨xcl7, xcld7, .cell (some (.ref C7)), xcsl7⟩)
    (xk7 : K.lookup ca7 = some ⟨xccl7, xcdd7, .fields xvs7, xccs7⟩)
    (xd7 : PySem.W.codeIn K (.ref ca7) "Opened.__init__" = true)
    (xb7 : ownB K C7 I7 "ValueError.__new__" "ValueError" "ValueError.__init__" PySem.XS.veT ["name"] = true)
    (xv7 : ∃ tf, xvs7[2]? = some (.str "/claim/cut.py" tf))
    (xa8 : PySem.W.nsIn K mainGlobals "NotOpen" = some (some (.ref C8)))
    (xi8 : PySem.W.findIn K (.ref C8) "__init__" = some (some (.ref I8)))
    (xl8 : K.lookup I8 = some ⟨xoc8, xod8, .func (PySem.W.ksFn "__init__" "NotOpen.__init__" (defArgs c_NotOpen) (defBody c_NotOpen) (defScope c_NotOpen) .none .none xdc8 xpm8 xan8 (.ref ca8) xct8 cc8), xosl8⟩)
    (xc8 : K.lookup cc8 = some ⟨xcl8, xcld8, .cell (some (.ref C8)), xcsl8⟩)
    (xk8 : K.lookup ca8 = some ⟨xccl8, xcdd8, .fields xvs8, xccs8⟩)
    (xd8 : PySem.W.codeIn K (.ref ca8) "NotOpen.__init__" = true)
    (xb8 : ownB K C8 I8 "ValueError.__new__" "ValueError" "ValueError.__init__" PySem.XS.veT ["name"] = true)
    (xv8 : ∃ tf, xvs8[2]? = some (.str "/claim/cut.py" tf))
    (xa9 : PySem.W.nsIn K mainGlobals "TooWide" = some (some (.ref C9)))
    (xi9 : PySem.W.findIn K (.ref C9) "__init__" = some (some (.ref I9)))
    (xl9 : K.lookup I9 = some ⟨xoc9, xod9, .func (PySem.W.ksFn "__init__" "TooWide.__init__" (defArgs c_TooWide) (defBody c_TooWide) (defScope c_TooWide) .none .none xdc9 xpm9 xan9 (.ref ca9) xct9 cc9), xosl9⟩)
    (xc9 : K.lookup cc9 = some ⟨xcl9, xcld9, .cell (some (.ref C9)), xcsl9⟩)
    (xk9 : K.lookup ca9 = some ⟨xccl9, xcdd9, .fields xvs9, xccs9⟩)
    (xd9 : PySem.W.codeIn K (.ref ca9) "TooWide.__init__" = true)
    (xb9 : ownB K C9 I9 "ValueError.__new__" "ValueError" "ValueError.__init__" PySem.XS.veT ["deed", "row"] = true)
    (xv9 : ∃ tf, xvs9[2]? = some (.str "/claim/cut.py" tf))
    (xa10 : PySem.W.nsIn K mainGlobals "NotNumber" = some (some (.ref C10)))
    (xi10 : PySem.W.findIn K (.ref C10) "__init__" = some (some (.ref I10)))
    (xl10 : K.lookup I10 = some ⟨xoc10, xod10, .func (PySem.W.ksFn "__init__" "NotNumber.__init__" (defArgs c_NotNumber) (defBody c_NotNumber) (defScope c_NotNumber) .none .none xdc10 xpm10 xan10 (.ref ca10) xct10 cc10), xosl10⟩)
    (xc10 : K.lookup cc10 = some ⟨xcl10, xcld10, .cell (some (.ref C10)), xcsl10⟩)
    (xk10 : K.lookup ca10 = some ⟨xccl10, xcdd10, .fields xvs10, xccs10⟩)
    (xd10 : PySem.W.codeIn K (.ref ca10) "NotNumber.__init__" = true)
    (xb10 : ownB K C10 I10 "ValueError.__new__" "ValueError" "ValueError.__init__" PySem.XS.veT [] = true)
    (xv10 : ∃ tf, xvs10[2]? = some (.str "/claim/cut.py" tf))
    (xa11 : PySem.W.nsIn K mainGlobals "Clash" = some (some (.ref C11)))
    (xi11 : PySem.W.findIn K (.ref C11) "__init__" = some (some (.ref I11)))
    (xl11 : K.lookup I11 = some ⟨xoc11, xod11, .func (PySem.W.ksFn "__init__" "Clash.__init__" (defArgs c_Clash) (defBody c_Clash) (defScope c_Clash) .none .none xdc11 xpm11 xan11 (.ref ca11) xct11 cc11), xosl11⟩)
    (xc11 : K.lookup cc11 = some ⟨xcl11, xcld11, .cell (some (.ref C11)), xcsl11⟩)
    (xk11 : K.lookup ca11 = some ⟨xccl11, xcdd11, .fields xvs11, xccs11⟩)
    (xd11 : PySem.W.codeIn K (.ref ca11) "Clash.__init__" = true)
    (xb11 : ownB K C11 I11 "ValueError.__new__" "ValueError" "ValueError.__init__" PySem.XS.veT ["name"] = true)
    (xv11 : ∃ tf, xvs11[2]? = some (.str "/claim/cut.py" tf))
    (xa12 : PySem.W.nsIn K mainGlobals "InvalidCommand" = some (some (.ref C12)))
    (xi12 : PySem.W.findIn K (.ref C12) "__init__" = some (some (.ref I12)))
    (xl12 : K.lookup I12 = some ⟨xoc12, xod12, .func (PySem.W.ksFn "__init__" "InvalidCommand.__init__" (defArgs c_InvalidCommand) (defBody c_InvalidCommand) (defScope c_InvalidCommand) .none .none xdc12 xpm12 xan12 (.ref ca12) xct12 cc12), xosl12⟩)
    (xc12 : K.lookup cc12 = some ⟨xcl12, xcld12, .cell (some (.ref C12)), xcsl12⟩)
    (xk12 : K.lookup ca12 = some ⟨xccl12, xcdd12, .fields xvs12, xccs12⟩)
    (xd12 : PySem.W.codeIn K (.ref ca12) "InvalidCommand.__init__" = true)
    (xb12 : ownB K C12 I12 "ValueError.__new__" "ValueError" "ValueError.__init__" PySem.XS.veT [] = true)
    (xv12 : ∃ tf, xvs12[2]? = some (.str "/claim/cut.py" tf))
    (xa13 : PySem.W.nsIn K mainGlobals "UnknownName" = some (some (.ref C13)))
    (xi13 : PySem.W.findIn K (.ref C13) "__init__" = some (some (.ref I13)))
    (xl13 : K.lookup I13 = some ⟨xoc13, xod13, .func (PySem.W.ksFn "__init__" "UnknownName.__init__" (defArgs c_UnknownName) (defBody c_UnknownName) (defScope c_UnknownName) .none .none xdc13 xpm13 xan13 (.ref ca13) xct13 cc13), xosl13⟩)
    (xc13 : K.lookup cc13 = some ⟨xcl13, xcld13, .cell (some (.ref C13)), xcsl13⟩)
    (xk13 : K.lookup ca13 = some ⟨xccl13, xcdd13, .fields xvs13, xccs13⟩)
    (xd13 : PySem.W.codeIn K (.ref ca13) "UnknownName.__init__" = true)
    (xb13 : ownB K C13 I13 "LookupError.__new__" "KeyError" "KeyError.__init__" PySem.XS.keT ["name"] = true)
    (xv13 : ∃ tf, xvs13[2]? = some (.str "/claim/cut.py" tf))
    (aH : PySem.W.nsIn K mainGlobals "HadnotError" = some (some (.ref hE)))
    (z_len : PySem.W.nsIn K mainGlobals "len" = some none)
    (z_abs : PySem.W.nsIn K mainGlobals "abs" = some none)
    (z_repr : PySem.W.nsIn K mainGlobals "repr" = some none)
    (z_isinstance : PySem.W.nsIn K mainGlobals "isinstance" = some none)
    (z_ValueError : PySem.W.nsIn K mainGlobals "ValueError" = some none)
    (z_KeyError : PySem.W.nsIn K mainGlobals "KeyError" = some none)
    (z_range : PySem.W.nsIn K mainGlobals "range" = some none)
    (z_enumerate : PySem.W.nsIn K mainGlobals "enumerate" = some none)
    (z_max : PySem.W.nsIn K mainGlobals "max" = some none)
    (z_min : PySem.W.nsIn K mainGlobals "min" = some none)
    (kt : kitB K [C0, C1, C2, C3, C4, C5, C6, C7, C8, C9, C10, C11, C12, C13] hE = true) :
    ∃ fd : FuncData, (∀ (s : Shared) (v : Value), BindsTo s fd ⟨[v], []⟩ [("_law_script", v)]) ∧ ∀ base : Heap, K.In base → base.Ns mainGlobals mg → FnG PySem.Challenge.pw_hadnot_k01_errors w K mg base CX0 3 fa fd ["_law_script"] (spLaw K) := by
  have e := hfa.symm.trans (PySem.W.mg_of X G a_law)
  cases e
  have nn : ∀ x, PySem.W.nsIn K mainGlobals x = some none → mg x = none := fun x z => PySem.W.mg_none_of X G z
  obtain ⟨tf0, xv0⟩ := xv0
  have X0 : Xc PySem.Challenge.pw_hadnot_k01_errors w K mg "InvalidName" C0 ["name"] := L2.xc1 (f := "name") (w := w) (st := c_InvalidName) PySem.XS.bas_VE X G xa0 xl0 xc0 xk0 xd0 xb0 xv0 (by decide +kernel) (by decide +kernel) rfl rfl rfl rfl (by decide) (by decide) (by decide) (by decide) (fun s a b vs d m n t hl => match vs, hl with | [_, _], _ => BindsTo.of_eq rfl)
  obtain ⟨tf1, xv1⟩ := xv1
  have X1 : Xc PySem.Challenge.pw_hadnot_k01_errors w K mg "InvalidText" C1 ["row"] := L2.xc1 (f := "row") (w := w) (st := c_InvalidText) PySem.XS.bas_VE X G xa1 xl1 xc1 xk1 xd1 xb1 xv1 (by decide +kernel) (by decide +kernel) rfl rfl rfl rfl (by decide) (by decide) (by decide) (by decide) (fun s a b vs d m n t hl => match vs, hl with | [_, _], _ => BindsTo.of_eq rfl)
  obtain ⟨tf2, xv2⟩ := xv2
  have X2 : Xc PySem.Challenge.pw_hadnot_k01_errors w K mg "InvalidDeed" C2 ["name"] := L2.xc1 (f := "name") (w := w) (st := c_InvalidDeed) PySem.XS.bas_VE X G xa2 xl2 xc2 xk2 xd2 xb2 xv2 (by decide +kernel) (by decide +kernel) rfl rfl rfl rfl (by decide) (by decide) (by decide) (by decide) (fun s a b vs d m n t hl => match vs, hl with | [_, _], _ => BindsTo.of_eq rfl)
  obtain ⟨tf3, xv3⟩ := xv3
  have X3 : Xc PySem.Challenge.pw_hadnot_k01_errors w K mg "NoRatio" C3 [] := L2.xc0 (w := w) (st := c_NoRatio) PySem.XS.bas_VE X G xa3 xl3 xc3 xk3 xd3 xb3 xv3 (by decide +kernel) (by decide +kernel) rfl rfl rfl rfl
  obtain ⟨tf4, xv4⟩ := xv4
  have X4 : Xc PySem.Challenge.pw_hadnot_k01_errors w K mg "OtherChoices" C4 [] := L2.xc0 (w := w) (st := c_OtherChoices) PySem.XS.bas_VE X G xa4 xl4 xc4 xk4 xd4 xb4 xv4 (by decide +kernel) (by decide +kernel) rfl rfl rfl rfl
  obtain ⟨tf5, xv5⟩ := xv5
  have X5 : Xc PySem.Challenge.pw_hadnot_k01_errors w K mg "Taken" C5 ["name"] := L2.xc1 (f := "name") (w := w) (st := c_Taken) PySem.XS.bas_VE X G xa5 xl5 xc5 xk5 xd5 xb5 xv5 (by decide +kernel) (by decide +kernel) rfl rfl rfl rfl (by decide) (by decide) (by decide) (by decide) (fun s a b vs d m n t hl => match vs, hl with | [_, _], _ => BindsTo.of_eq rfl)
  obtain ⟨tf6, xv6⟩ := xv6
  have X6 : Xc PySem.Challenge.pw_hadnot_k01_errors w K mg "Unready" C6 ["where", "name"] := L2.xc2 (f := "where") (g := "name") (w := w) (st := c_Unready) PySem.XS.bas_VE X G xa6 xl6 xc6 xk6 xd6 xb6 xv6 (by decide +kernel) (by decide +kernel) rfl rfl rfl rfl (by decide) (by decide) (by decide) (by decide) (by decide) (by decide) (by decide) (by decide) (by decide) (fun s a b vs d m n t hl => match vs, hl with | [_, _, _], _ => BindsTo.of_eq rfl)
  obtain ⟨tf7, xv7⟩ := xv7
  have X7 : Xc PySem.Challenge.pw_hadnot_k01_errors w K mg "Opened" C7 ["name"] := L2.xc1 (f := "name") (w := w) (st := c_Opened) PySem.XS.bas_VE X G xa7 xl7 xc7 xk7 xd7 xb7 xv7 (by decide +kernel) (by decide +kernel) rfl rfl rfl rfl (by decide) (by decide) (by decide) (by decide) (fun s a b vs d m n t hl => match vs, hl with | [_, _], _ => BindsTo.of_eq rfl)
  obtain ⟨tf8, xv8⟩ := xv8
  have X8 : Xc PySem.Challenge.pw_hadnot_k01_errors w K mg "NotOpen" C8 ["name"] := L2.xc1 (f := "name") (w := w) (st := c_NotOpen) PySem.XS.bas_VE X G xa8 xl8 xc8 xk8 xd8 xb8 xv8 (by decide +kernel) (by decide +kernel) rfl rfl rfl rfl (by decide) (by decide) (by decide) (by decide) (fun s a b vs d m n t hl => match vs, hl with | [_, _], _ => BindsTo.of_eq rfl)
  obtain ⟨tf9, xv9⟩ := xv9
  have X9 : Xc PySem.Challenge.pw_hadnot_k01_errors w K mg "TooWide" C9 ["deed", "row"] := L2.xc2 (f := "deed") (g := "row") (w := w) (st := c_TooWide) PySem.XS.bas_VE X G xa9 xl9 xc9 xk9 xd9 xb9 xv9 (by decide +kernel) (by decide +kernel) rfl rfl rfl rfl (by decide) (by decide) (by decide) (by decide) (by decide) (by decide) (by decide) (by decide) (by decide) (fun s a b vs d m n t hl => match vs, hl with | [_, _, _], _ => BindsTo.of_eq rfl)
  obtain ⟨tf10, xv10⟩ := xv10
  have X10 : Xc PySem.Challenge.pw_hadnot_k01_errors w K mg "NotNumber" C10 [] := L2.xc0 (w := w) (st := c_NotNumber) PySem.XS.bas_VE X G xa10 xl10 xc10 xk10 xd10 xb10 xv10 (by decide +kernel) (by decide +kernel) rfl rfl rfl rfl
  obtain ⟨tf11, xv11⟩ := xv11
  have X11 : Xc PySem.Challenge.pw_hadnot_k01_errors w K mg "Clash" C11 ["name"] := L2.xc1 (f := "name") (w := w) (st := c_Clash) PySem.XS.bas_VE X G xa11 xl11 xc11 xk11 xd11 xb11 xv11 (by decide +kernel) (by decide +kernel) rfl rfl rfl rfl (by decide) (by decide) (by decide) (by decide) (fun s a b vs d m n t hl => match vs, hl with | [_, _], _ => BindsTo.of_eq rfl)
  obtain ⟨tf12, xv12⟩ := xv12
  have X12 : Xc PySem.Challenge.pw_hadnot_k01_errors w K mg "InvalidCommand" C12 [] := L2.xc0 (w := w) (st := c_InvalidCommand) PySem.XS.bas_VE X G xa12 xl12 xc12 xk12 xd12 xb12 xv12 (by decide +kernel) (by decide +kernel) rfl rfl rfl rfl
  obtain ⟨tf13, xv13⟩ := xv13
  have X13 : Xc PySem.Challenge.pw_hadnot_k01_errors w K mg "UnknownName" C13 ["name"] := L2.xc1 (f := "name") (w := w) (st := c_UnknownName) PySem.XS.bas_KE X G xa13 xl13 xc13 xk13 xd13 xb13 xv13 (by decide +kernel) (by decide +kernel) rfl rfl rfl rfl (by decide) (by decide) (by decide) (by decide) (fun s a b vs d m n t hl => match vs, hl with | [_, _], _ => BindsTo.of_eq rfl)
  have T : Txt PySem.Challenge.pw_hadnot_k01_errors w K mg (fun j => [C0, C1, C2, C3, C4, C5, C6, C7, C8, C9, C10, C11, C12, C13].getD j 0) hE :=
    ⟨X0, X1, X2, X3, X4, X5, X6, X7, X8, X9, X10, X11, X12, X13, PySem.W.mg_of X G aH, fun i j hi hj => (kitB_ok kt i hi).1 j hj, fun i hi => (kitB_ok kt i hi).2.1, fun i hi => (kitB_ok kt i hi).2.2.1, fun i hi => (kitB_ok kt i hi).2.2.2, nn _ z_isinstance, nn _ z_ValueError, nn _ z_KeyError, nn _ z_range, nn _ z_enumerate, nn _ z_max, nn _ z_min, nn _ z_len⟩
  have B : Blt mg := ⟨nn _ z_len, nn _ z_abs, nn _ z_repr⟩
  refine ⟨_, fun s v => .of_eq rfl, fun base _ _ => ok_law (fun_mk (st := s_law) l_law c_law k_law) T ?_⟩
  have O1' : O1 PySem.Challenge.pw_hadnot_k01_errors w K mg base := ⟨ok_feed (def_mk X G a_feed l_feed c_feed k_feed) B, ok_take (def_mk X G a_take l_take c_take k_take), ok_same (def_mk X G a_same l_same c_same k_same) B⟩
  exact ⟨O1', ok_thing (def_mk X G a_thing l_thing c_thing k_thing) O1', ok_told (def_mk X G a_told l_told c_told k_told) T, ok_sorts (def_mk X G a_sorts l_sorts c_sorts k_sorts) T, ok_parts (def_mk X G a_parts l_parts c_parts k_parts) T⟩
end Law

set_option Elab.async false
set_option linter.all false
open PySem PySem.W PyProof.Rows in
set_option maxRecDepth 100000 in
set_option maxHeartbeats 0 in
theorem PySem.Challenge.cw_hadnot_k01_errors_holds : PySem.Challenge.rw_hadnot_k01_errors.Holds := by
  w_on; o_law; k_head; (case hw => w_witness2)
  k_fill
  refine L2.walk_ofG (l := PySem.Challenge.rw_hadnot_k01_errors) (n := 63) (k := 3) (x := "_law_script") (sp := Law.spLaw) rfl (by decide) rfl ⟨rfl, by decide, by decide⟩ (fun w h Y => PySem.W.kIn_of Y) ?F (fun K H a ns hl _ hS => ⟨a, ns, rfl, hS, hl, fun _ => rfl⟩)
  case F =>
    intro w mg fa h KX G hmg
    refine' Law.all_mk KX G hmg ?a_feed ?l_feed ?c_feed ?k_feed ?a_take ?l_take ?c_take ?k_take ?a_same ?l_same ?c_same ?k_same ?a_thing ?l_thing ?c_thing ?k_thing ?a_told ?l_told ?c_told ?k_told ?a_sorts ?l_sorts ?c_sorts ?k_sorts ?a_parts ?l_parts ?c_parts ?k_parts ?a_law ?l_law ?c_law ?k_law ?xa0 ?xi0 ?xl0 ?xc0 ?xk0 ?xd0 ?xb0 ?xv0 ?xa1 ?xi1 ?xl1 ?xc1 ?xk1 ?xd1 ?xb1 ?xv1 ?xa2 ?xi2 ?xl2 ?xc2 ?xk2 ?xd2 ?xb2 ?xv2 ?xa3 ?xi3 ?xl3 ?xc3 ?xk3 ?xd3 ?xb3 ?xv3 ?xa4 ?xi4 ?xl4 ?xc4 ?xk4 ?xd4 ?xb4 ?xv4 ?xa5 ?xi5 ?xl5 ?xc5 ?xk5 ?xd5 ?xb5 ?xv5 ?xa6 ?xi6 ?xl6 ?xc6 ?xk6 ?xd6 ?xb6 ?xv6 ?xa7 ?xi7 ?xl7 ?xc7 ?xk7 ?xd7 ?xb7 ?xv7 ?xa8 ?xi8 ?xl8 ?xc8 ?xk8 ?xd8 ?xb8 ?xv8 ?xa9 ?xi9 ?xl9 ?xc9 ?xk9 ?xd9 ?xb9 ?xv9 ?xa10 ?xi10 ?xl10 ?xc10 ?xk10 ?xd10 ?xb10 ?xv10 ?xa11 ?xi11 ?xl11 ?xc11 ?xk11 ?xd11 ?xb11 ?xv11 ?xa12 ?xi12 ?xl12 ?xc12 ?xk12 ?xd12 ?xb12 ?xv12 ?xa13 ?xi13 ?xl13 ?xc13 ?xk13 ?xd13 ?xb13 ?xv13 ?aH ?z_len ?z_abs ?z_repr ?z_isinstance ?z_ValueError ?z_KeyError ?z_range ?z_enumerate ?z_max ?z_min ?kt
    (case a_feed => k_is)
    (case l_feed => k_is)
    (case c_feed => k_is)
    (case k_feed => k_is)
    (case a_take => k_is)
    (case l_take => k_is)
    (case c_take => k_is)
    (case k_take => k_is)
    (case a_same => k_is)
    (case l_same => k_is)
    (case c_same => k_is)
    (case k_same => k_is)
    (case a_thing => k_is)
    (case l_thing => k_is)
    (case c_thing => k_is)
    (case k_thing => k_is)
    (case a_told => k_is)
    (case l_told => k_is)
    (case c_told => k_is)
    (case k_told => k_is)
    (case a_sorts => k_is)
    (case l_sorts => k_is)
    (case c_sorts => k_is)
    (case k_sorts => k_is)
    (case a_parts => k_is)
    (case l_parts => k_is)
    (case c_parts => k_is)
    (case k_parts => k_is)
    (case a_law => k_is)
    (case l_law => k_is)
    (case c_law => k_is)
    (case k_law => k_is)
    (case xa0 => k_is)
    (case xi0 => k_is)
    (case xl0 => k_is)
    (case xc0 => k_is)
    (case xk0 => k_is)
    (case xd0 => k_is)
    (case xb0 => kernel_rfl)
    (case xv0 => exact ⟨_, rfl⟩)
    (case xa1 => k_is)
    (case xi1 => k_is)
    (case xl1 => k_is)
    (case xc1 => k_is)
    (case xk1 => k_is)
    (case xd1 => k_is)
    (case xb1 => kernel_rfl)
    (case xv1 => exact ⟨_, rfl⟩)
    (case xa2 => k_is)
    (case xi2 => k_is)
    (case xl2 => k_is)
    (case xc2 => k_is)
    (case xk2 => k_is)
    (case xd2 => k_is)
    (case xb2 => kernel_rfl)
    (case xv2 => exact ⟨_, rfl⟩)
    (case xa3 => k_is)
    (case xi3 => k_is)
    (case xl3 => k_is)
    (case xc3 => k_is)
    (case xk3 => k_is)
    (case xd3 => k_is)
    (case xb3 => kernel_rfl)
    (case xv3 => exact ⟨_, rfl⟩)
    (case xa4 => k_is)
    (case xi4 => k_is)
    (case xl4 => k_is)
    (case xc4 => k_is)
    (case xk4 => k_is)
    (case xd4 => k_is)
    (case xb4 => kernel_rfl)
    (case xv4 => exact ⟨_, rfl⟩)
    (case xa5 => k_is)
    (case xi5 => k_is)
    (case xl5 => k_is)
    (case xc5 => k_is)
    (case xk5 => k_is)
    (case xd5 => k_is)
    (case xb5 => kernel_rfl)
    (case xv5 => exact ⟨_, rfl⟩)
    (case xa6 => k_is)
    (case xi6 => k_is)
    (case xl6 => k_is)
    (case xc6 => k_is)
    (case xk6 => k_is)
    (case xd6 => k_is)
    (case xb6 => kernel_rfl)
    (case xv6 => exact ⟨_, rfl⟩)
    (case xa7 => k_is)
    (case xi7 => k_is)
    (case xl7 => k_is)
    (case xc7 => k_is)
    (case xk7 => k_is)
    (case xd7 => k_is)
    (case xb7 => kernel_rfl)
    (case xv7 => exact ⟨_, rfl⟩)
    (case xa8 => k_is)
    (case xi8 => k_is)
    (case xl8 => k_is)
    (case xc8 => k_is)
    (case xk8 => k_is)
    (case xd8 => k_is)
    (case xb8 => kernel_rfl)
    (case xv8 => exact ⟨_, rfl⟩)
    (case xa9 => k_is)
    (case xi9 => k_is)
    (case xl9 => k_is)
    (case xc9 => k_is)
    (case xk9 => k_is)
    (case xd9 => k_is)
    (case xb9 => kernel_rfl)
    (case xv9 => exact ⟨_, rfl⟩)
    (case xa10 => k_is)
    (case xi10 => k_is)
    (case xl10 => k_is)
    (case xc10 => k_is)
    (case xk10 => k_is)
    (case xd10 => k_is)
    (case xb10 => kernel_rfl)
    (case xv10 => exact ⟨_, rfl⟩)
    (case xa11 => k_is)
    (case xi11 => k_is)
    (case xl11 => k_is)
    (case xc11 => k_is)
    (case xk11 => k_is)
    (case xd11 => k_is)
    (case xb11 => kernel_rfl)
    (case xv11 => exact ⟨_, rfl⟩)
    (case xa12 => k_is)
    (case xi12 => k_is)
    (case xl12 => k_is)
    (case xc12 => k_is)
    (case xk12 => k_is)
    (case xd12 => k_is)
    (case xb12 => kernel_rfl)
    (case xv12 => exact ⟨_, rfl⟩)
    (case xa13 => k_is)
    (case xi13 => k_is)
    (case xl13 => k_is)
    (case xc13 => k_is)
    (case xk13 => k_is)
    (case xd13 => k_is)
    (case xb13 => kernel_rfl)
    (case xv13 => exact ⟨_, rfl⟩)
    (case aH => k_is)
    (case z_len => k_is)
    (case z_abs => k_is)
    (case z_repr => k_is)
    (case z_isinstance => k_is)
    (case z_ValueError => k_is)
    (case z_KeyError => k_is)
    (case z_range => k_is)
    (case z_enumerate => k_is)
    (case z_max => k_is)
    (case z_min => k_is)
    (case kt => kernel_rfl)
#print axioms PySem.Challenge.cw_hadnot_k01_errors_holds
