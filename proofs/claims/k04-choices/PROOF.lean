import PyProof.Rows.All
import Wide.All
import OpenK.AllK
import Wide.FinOn
import KE.KExcSuper
import HandS.ForMost
import HandS.ForExc
import HandS.ExcInit
import KE.KExcIs
import HandS.ExcValue
import HandS.ExcField
import HandS.IsInst
import HandS.EndBits
import PyProof.ReprRoads
import PyProof.ReprLen
import HandS.Wide
import KE.KOpsOwn
import KE.KCallOwn
import HandS.OwnEq
import HandS.Defaults
import HandS.FStr
import HandS.Small
import HandS.Style
import HandS.Text
import HandS.TupAny
import HandS.ClsMeth
import HandS.CallLocal
import OpenK.KMeth
import HandS.TryMany
import HandS.Strs
import HandS.Sort
import HandS.Walk
import PySem.Challenge.RW_hadnot_k04_choices
set_option Elab.async false
set_option linter.all false
set_option maxRecDepth 100000
set_option maxHeartbeats 2000000
/-! XS: own exception classes over ValueError or KeyError (also through a class of the program) whose __init__ says super().__init__(text) and stores its parameters. -/
namespace PySem
namespace XS
open PySem.W PySem.Calls PyProof.Rows PySem.HandSPX
abbrev veT : List Value := [.type "ValueError", .type "Exception", .type "BaseException", .type "object"]
abbrev keT : List Value := [.type "KeyError", .type "LookupError", .type "Exception", .type "BaseException", .type "object"]
/-- the built-in below: who makes (Bn), who sets up (B), the classes above -/
structure Bas (Bn newId iN : String) (bmN : List Value) (B initId : String) (bmB : List Value) : Prop where
  nb : ExcBaseFacts Bn newId iN bmN
  hB : bmB.contains (.type Bn) = true
  hA : bmB.contains (.type "AttributeError") = false
  hN : bmB.contains (.type "NameError") = false
  sf : StoreFacts B bmB "object.__setattr__" "object"
  kx : KxsFacts B initId
  ik : builtinKind initId = some .slot
  ir : Manifest.signature? initId = some ⟨.positional, "*", B, .self, [⟨"args", .varPos, false⟩]⟩
  ns : (B != "*") = true
  ipl : plainId initId = true
  ien : entryFor table initId = some Builtin.«BaseException.__init__»
theorem bas_VE : Bas "ValueError" "ValueError.__new__" "ValueError.__init__" veT "ValueError" "ValueError.__init__" veT where
  nb := F.excBase_ValueError
  hB := by decide +kernel
  hA := by decide +kernel
  hN := by decide +kernel
  sf := F.store_ValueError
  kx := kxs_ValueError
  ik := by kernel_rfl
  ir := by kernel_rfl
  ns := by decide +kernel
  ipl := by decide +kernel
  ien := F.excBase_ValueError.initEntry
theorem sto_KE : StoreFacts "KeyError" keT "object.__setattr__" "object" where
  mro := by kernel_rfl
  slot := .of (owner := "object") (n := "__setattr__") (by rw [typeLookup_type, builtinLookup_eq_fast]; kernel_rfl) (by decide +kernel) (by decide +kernel) (by decide +kernel)
    (by first | exact .inl (by decide +kernel) | exact .inr (by decide +kernel)) (by rw [isSubtype_type]; kernel_rfl)
  entry := F.store_ValueError.entry
  kind := by decide +kernel
  split := by decide +kernel
  hasOwner := by decide +kernel
  args := fun a b c => by unfold argsOk; kernel_rfl
  passes := fun self => by kernel_rfl
theorem bas_KE : Bas "LookupError" "LookupError.__new__" "LookupError.__init__" [.type "LookupError", .type "Exception", .type "BaseException", .type "object"] "KeyError" "KeyError.__init__" keT where
  nb := F.excBase_LookupError
  hB := by decide +kernel
  hA := by decide +kernel
  hN := by decide +kernel
  sf := sto_KE
  kx := ⟨by show builtinType _ = _; rw [builtinType_eq_fast]; kernel_rfl, by first | kernel_rfl | rfl⟩
  ik := by kernel_rfl
  ir := by kernel_rfl
  ns := by decide +kernel
  ipl := by decide +kernel
  ien := PyProof.Rows.excClass_KeyError.initEntry

/-! ### making -/
section
variable {prog : Program} {w : World} {M : Model} {A : Around} {E : Value → Shared → Prop} {R : Result → Shared → Prop} {h : Heap} {g : Array GenState} {d : Drawn} {t : Nat} {os : OsState}
variable {nm q : Str} {C N : Addr} {bs bm bmN bmB : List Value} {hdct : Bool} {sn : List Str} {sub : List Value} {ab : Bool} {col : Option Bool} {dd : Option Addr} {k0 k1 k2 k3 k5 : Option Value} {Bn newId iN B initId : String}
theorem chk_new (T : Bas Bn newId iN bmN B initId bmB) (hT : ∀ X : String, bm.contains (.type X) = bmB.contains (.type X)) {rest : List Value} {Q : Unit → Shared → Prop}
    (hC : h.get? C = some (excClassObj nm q C N bs bm hdct sn sub ab col dd k0 k1 k2 k3 k5 newId)) (hq : Q () ⟨h, g, d, t, os⟩) :
    wpAny M A (checkBuiltinCall newId ⟨.ref C :: rest, []⟩) Q E ⟨h, g, d, t, os⟩ := by
  have c0 : (Value.ref C :: bm).contains (.type Bn) = true := by rw [List.contains_cons, hT, T.hB, Bool.or_true]
  have st := T.nb.noStar
  simp only [checkBuiltinCall, T.nb.newKind, T.nb.newSplit, T.nb.newRow]
  repeat (first
    | refine wpAny_loadPart_at hC ?_
    | (refine wpAny_isSubtype_exc hC ?_; rw [c0])
    | refine wpAny_staticBase_exc hC ?_
    | refine wpAny_madeBy_exc hC ?_
    | simp only [bne_self_eq_false, Bool.false_eq_true, if_false]
    | wp_step)
  exact hq
theorem run_new (T : Bas Bn newId iN bmN B initId bmB) (hT : ∀ X : String, bm.contains (.type X) = bmB.contains (.type X)) {rest : List Value}
    (hC : h.get? C = some (excClassObj nm q C N bs bm hdct sn sub ab col dd k0 k1 k2 k3 k5 newId)) (hz : rest.length ≤ sizeLine)
    (hq : R (.ok (.ret (.ref (h.objs.size + 1)))) ⟨(h.push (kdv_tup rest)).push (excO C h.objs.size), g, d, t, os⟩) :
    codeAny (model prog w) A (.builtin newId ⟨.ref C :: rest, []⟩) R ⟨h, g, d, t, os⟩ := by
  have en := T.nb.ends
  have cB : (Value.ref C :: bm).contains (.type Bn) = true := by rw [List.contains_cons, hT, T.hB, Bool.or_true]
  have cA : (Value.ref C :: bm).contains (.type "AttributeError") = false := by rw [List.contains_cons, hT, T.hA]; rfl
  have cN : (Value.ref C :: bm).contains (.type "NameError") = false := by rw [List.contains_cons, hT, T.hN]; rfl
  refine codeAny_builtinAt T.nb.entry ?_
  unfold Builtin.«BaseException.__new__»
  refine wpAt_bind ?_
  show wpAt _ _ _ (stack >>= _) _ _ _
  refine wpAt_bind (wpAt_stack fun p below => wpAt_of_wpAny ?_)
  wp_walk
  refine wpAt_of_wpAny ?_
  rw [T.nb.owner]
  repeat (first
    | with_reducible refine wpAny_madeHere_exc T.nb.canon hC ?_
    | with_reducible refine wpAny_loadPart_at hC ?_
    | (with_reducible refine wpAny_isSubtype_exc hC ?_; first | rw [cB] | rw [cA] | rw [cN])
    | wp_step)
  show R _ _
  rw [Heap.size_push]
  exact hq
theorem run_type (T : Bas Bn newId iN bmN B initId bmB) (hT : ∀ X : String, bm.contains (.type X) = bmB.contains (.type X)) {rest : List Value} {fI : Addr} {Q : Fin → Shared → Prop}
    (hC : h.get? C = some (excClassObj nm q C N bs bm hdct sn sub ab col dd k0 k1 k2 k3 k5 newId))
    (hi : W.Looks (model prog w) h (typeLookup (.ref C) "__init__") (some (.ref fI))) (hb : ∀ self, W.Looks (model prog w) h (bindSpecial (.ref fI) self) (.ref fI, [self])) (hz : rest.length ≤ sizeLine)
    (hq : codeAny (model prog w) A (.call (.ref fI) ⟨.ref (h.objs.size + 1) :: rest, []⟩)
      (fun r s' => match r with | .ok (.ret v) => v = .none ∧ Q (.done (.ret (.ref (h.objs.size + 1)))) s' | .ok _ => False | .error e => E e s')
      ⟨(h.push (kdv_tup rest)).push (excO C h.objs.size), g, d, t, os⟩) :
    wpAny (model prog w) A (Builtin.«type.__call__» ⟨.ref C :: rest, []⟩) Q E ⟨h, g, d, t, os⟩ := by
  have cC : (Value.ref C :: bm).contains (.ref C) = true := by simp
  have up : ∀ b o, h.get? b = some o → ((h.push (kdv_tup rest)).push (excO C h.objs.size)).get? b = some o := fun b o e => Heap.get?_push_of_some _ (Heap.get?_push_of_some _ e)
  have hC' := up _ _ hC
  have he : ((h.push (kdv_tup rest)).push (excO C h.objs.size)).get? (h.objs.size + 1) = some (excO C h.objs.size) := by heap_get
  have i1 := hi.keeps up
  have b1 := (hb (.ref (h.objs.size + 1))).keeps up
  repeat (first | with_reducible refine wpAny_loadPart_at hC ?_ | with_reducible refine wpAny_madeBy_exc hC ?_ | wp_step)
  refine codeAny_call_builtin_code (Code.quiet_builtin _ T.nb.quiet) (chk_new T hT hC (run_new T hT hC hz ?_))
  show wpAny _ _ _ _ _ _
  unfold isInstance
  repeat (first | with_reducible refine wpAny_loadPart_at he ?_ | (with_reducible refine wpAny_isSubtype_exc hC' ?_; rw [cC]) | wp_step)
  show wpAny _ _ (typeLookup (.ref C) _) _ _ _
  refine i1.at (wpAny_holding (wpAny_bind (b1.at ?_)))
  refine wpAny_bind (wpAny_call (codeAny_mono hq fun r s' z => ?_))
  rcases r with e | (v | _ | _ | _) <;> first | exact z | exact z.elim | skip
  obtain ⟨rfl, z⟩ := z
  first
    | exact wpAny_pure (wpAny_pure z)
    | (wp_walk; exact z)
theorem run_call (T : Bas Bn newId iN bmN B initId bmB) (hT : ∀ X : String, bm.contains (.type X) = bmB.contains (.type X)) {rest : List Value} {fI : Addr}
    (hC : h.get? C = some (excClassObj nm q C N bs bm hdct sn sub ab col dd k0 k1 k2 k3 k5 newId))
    (hi : W.Looks (model prog w) h (typeLookup (.ref C) "__init__") (some (.ref fI))) (hb : ∀ self, W.Looks (model prog w) h (bindSpecial (.ref fI) self) (.ref fI, [self])) (hz : rest.length ≤ sizeLine)
    (hq : codeAny (model prog w) (A.under (.builtin "type.__call__" ⟨.ref C :: rest, []⟩)) (.call (.ref fI) ⟨.ref (h.objs.size + 1) :: rest, []⟩) (W.InitBack (h.objs.size + 1) R)
      ⟨(h.push (kdv_tup rest)).push (excO C h.objs.size), g, d, t, os⟩) :
    codeAny (model prog w) A (.call (.ref C) ⟨rest, []⟩) R ⟨h, g, d, t, os⟩ := by
  have f1 := tc_lookup
  have f2 := tc_bind (.ref C)
  have ty : (⟨h, g, d, t, os⟩ : Shared).TypeIs (.ref C) "type" := ⟨_, hC, rfl⟩
  refine codeAny_of_tree ?_
  show wpAny _ _ (callAny (.ref C) _) _ _ _
  repeat (any_goals (first | assumption | with_reducible refine wpAny_loadPart_at hC ?_ | wp_step))
  refine ⟨rfl, codeAny_call_builtin_at (Code.quiet_builtin _ (by decide +kernel)) entry_typeCall (wpAny_check_type_call_sub hC (run_type T hT hC hi hb hz (codeAny_mono hq fun r s' z => ?_)))⟩
  rcases r with e | (v | _ | _ | _) <;> exact z

/-! ### super().__init__(text): the wrapper called -/
theorem chk_bound (T : Bas Bn newId iN bmN B initId bmB) {e : Addr} {oe : Obj} {rest : List Value} {Q : Unit → Shared → Prop}
    (hC : h.get? C = some (excClassObj nm q C N bs bm hdct sn sub ab col dd k0 k1 k2 k3 k5 newId)) (he : h.get? e = some oe) (hcls : oe.cls = .ref C) (hq : Q () ⟨h, g, d, t, os⟩) :
    wpAny M A (checkBoundCall initId ⟨.ref e :: rest, []⟩) Q E ⟨h, g, d, t, os⟩ := by
  have st := T.ns
  simp only [checkBoundCall, T.ik, T.ir]
  repeat (first | (with_reducible refine wpAny_loadPart_at he ?_; rw [hcls]) | with_reducible refine wpAny_loadPart_at hC ?_ | wp_step)
  refine wpAny_onRaise ?_
  have c : ∀ (a b : String) (n : Nat), Bind.check ⟨.positional, "*", B, .self, [⟨"args", .varPos, false⟩]⟩ a b n (List.map (fun x => x.fst) ({ pos := Value.ref e :: rest } : Args).kw) = pure () := fun a b n => check_star_args _ _ _ _ _ _
  rw [c]
  exact wpAny_pure hq
theorem call_mw (T : Bas Bn newId iN bmN B initId bmB) {u e t0 : Addr} {rest : List Value} {Q : Value → Shared → Prop}
    (hC : h.get? C = some (excClassObj nm q C N bs bm hdct sn sub ab col dd k0 k1 k2 k3 k5 newId)) (he : h.get? e = some (excO C t0)) (hu : h.get? u = some (kxs_mw initId e)) (hz : rest.length ≤ sizeLine)
    (hq : ∀ h', (∀ b o, b ≠ e → h.get? b = some o → h'.get? b = some o) → h'.get? e = some (excO C h.objs.size) → Q .none ⟨h', g, d, t, os⟩) :
    wpAny (model prog w) A (call (.ref u) rest) Q E ⟨h, g, d, t, os⟩ := by
  refine wpAny_call (codeAny_of_tree ?_)
  show wpAny _ A.in1 (callAny (.ref u) ⟨rest, []⟩) _ _ _
  simp only [callAny]
  refine wpAny_bind (wpAny_load hu ?_)
  simp only [kxs_mw, show (Value.type "method-wrapper" == Value.type "method" || Value.type "method-wrapper" == Value.type "builtin_function_or_method" || Value.type "method-wrapper" == Value.type "method-wrapper") = true by decide, if_true]
  refine KFB.if_so (by decide) ?_
  refine wpAny_bind (chk_bound T hC he rfl (wpAny_bind (wpAny_pure (wpAny_pure ⟨plainId_quiet T.ipl _, codeAny_builtin T.ien ?_⟩))))
  exact exc_init_tree (cls := .ref C) (t0 := t0) (dv := none) (c2 := .none) (c3 := .none) (b4 := .bool false) he hz fun h' k e' _ => hq h' k e'
end
end XS
end PySem

set_option Elab.async false
set_option linter.all false
set_option maxRecDepth 100000
set_option maxHeartbeats 2000000
namespace PySem
namespace XS
open PySem.W PySem.Calls PyProof.Rows PySem.HandSPX
/-- what the written part says of the class at C and of its __init__ at fI -/
structure Own (prog : Program) (K : Frag) (C fI cc cda : Addr) (newId B initId : String) (bmB : List Value) (qual : Str) (params : Arguments) (body : List Stmt) (scope : Scope) : Prop where
  q : excInitIn K C bmB newId = true
  ov : excOver K C bmB = true
  hd : hasDictIn K C = true
  sa : findIn K (.ref C) "__setattr__" = some (some (.builtin "object.__setattr__"))
  iC : findIn K (.ref C) "__init__" = some (some (.ref fI))
  tI : isFn K (.ref fI) = true
  kC : keepIn K (.ref C) = true
  su : ks_superIn K C C "__init__" = some (some (.builtin initId))
  mC : mroIn K C (.ref C) = some true
  sB : subIn K (.ref C) (.type B) = some true
  th : nsIn K cStatics "thirdparty.any" = some none
  cell : ∃ cl cld csl, K.lookup cc = some ⟨cl, cld, .cell (some (.ref C)), csl⟩
  code : ∃ ccl cdd vs ccs file tf, K.lookup cda = some ⟨ccl, cdd, .fields vs, ccs⟩ ∧ vs[2]? = some (.str file tf) ∧ ((prog.main.file : Str) == file) = true
  top : (prog.main.scope.names.lookup ("super" : Str)).isSome = false
  fn : ∃ oc od osl doc pm an ct, K.lookup fI = some ⟨oc, od, .func (ksFn "__init__" qual params body scope .none .none doc pm an (.ref cda) ct cc), osl⟩ ∧ codeIn K (.ref cda) qual = true
/-- the scope of such an __init__ -/
structure ScI (params : Arguments) (scope : Scope) : Prop where
  hp : ∃ ar, (params.posonlyargs ++ params.args).head? = some ar ∧ ar.arg = "self"
  ks : scope.names.lookup ("super" : Str) = some .globalImplicit
  kc : scope.names.lookup ("__class__" : Str) = some .free
  ka : scope.names.lookup ("self" : Str) = some .local
  kd : scope.kind = .function
  nc : ∀ x ∈ scope.names, x.2 ≠ .cell
  co : scope.isCoroutine = false
  ge : scope.isGenerator = false
theorem quiet_of {env : Env} (h : env.scope.kind = .function) : interactive env = false := by simp [interactive, h]
section
variable {prog : Program} {w : World} {A : Around} {E : Value → Shared → Prop} {R : Result → Shared → Prop} {s : Shared} {K : Frag} {mg mb : Str → Option Value} {C fI cc cda : Addr} {Bn newId iN B initId : String} {bmN bmB : List Value} {qual : Str} {params : Arguments} {rest : List Stmt} {scope : Scope}
theorem init_run (T : Bas Bn newId iN bmN B initId bmB) {p0 p1 p2 p3 p4 p5 : Pos} {txt : Str} {j : Nat}
    (Z : Own prog K C fI cc cda newId B initId bmB qual params (.Expr (.Call (.Attribute (.Call (.Name "super" p0) [] [] p1) "__init__" p2) [.Constant (.str txt) j p3] [] p4) p5 :: rest) scope) (S : ScI params scope)
    {x t0 : Addr} {args : List Value} {binds : List (Str × Value)} (X : K.In s.heap) (hlim : s.heap.NoLimit) (G : s.heap.Ns mainGlobals mg) (gs : mg "super" = none) (Bl : s.heap.Ns builtinsNs mb) (bs : mb "super" = some (.type "super"))
    (hx : s.heap.get? x = some (excO C t0)) (hnx : K.lookup x = none) (hroom : A.depth < recursionLimit)
    (hbind : ∀ doc pm an ct, BindsTo s (ksFn "__init__" qual params (.Expr (.Call (.Attribute (.Call (.Name "super" p0) [] [] p1) "__init__" p2) [.Constant (.str txt) j p3] [] p4) p5 :: rest) scope .none .none doc pm an (.ref cda) ct cc) ⟨.ref x :: args, []⟩ binds)
    (hloc : ∀ y ∈ binds, scope.names.lookup y.1 = some .local) (hself : binds.reverse.lookup ("self" : Str) = some (Value.ref x))
    (hev : ∀ L, ∃ pl : Sem Bool, eval (.Call (.Attribute (.Call (.Name "super" p0) [] [] p1) "__init__" p2) [.Constant (.str txt) j p3] [] p4) (ksEnv qual scope L fI (.ref cda) cc) = (do
      let ov ← attributeBase (.Call (.Name "super" p0) [] [] p1) "__init__" (ksEnv qual scope L fI (.ref cda) cc) (eval (.Call (.Name "super" p0) [] [] p1) (ksEnv qual scope L fI (.ref cda) cc))
      standAt p2.atName
      let (f, first) ← holding [ov] (getMethod ov "__init__" pl)
      callWith p4 f first (backTo p4 (starEach [.Constant (.str txt) j p3] (ksEnv qual scope L fI (.ref cda) cc))) []))
    (hq : ∀ h₁ tk₁ t1, h₁.Ns s.heap.objs.size (fun y => binds.reverse.lookup y) → (∀ b o, b ≠ x → s.heap.get? b = some o → h₁.get? b = some o) → h₁.get? x = some (excO C t1) →
      wpAny (model prog w) (A.deeper (ksEnv qual scope s.heap.objs.size fI (.ref cda) cc)) (execs rest (ksEnv qual scope s.heap.objs.size fI (.ref cda) cc)) (fun fl s' => R (.ok (.ret (match fl with | .ret v => v | _ => .none))) s')
        (fun e s' => wpAny (model prog w) (A.deeper (ksEnv qual scope s.heap.objs.size fI (.ref cda) cc)) (leaving (ksEnv qual scope s.heap.objs.size fI (.ref cda) cc) e) (fun _ s'' => R (.error e) s'') (fun e' s'' => R (.error e') s'') s')
        { s with heap := h₁, toks := tk₁ }) :
    codeAny (model prog w) A (.call (.ref fI) ⟨.ref x :: args, []⟩) R s := by
  obtain ⟨oc, od, osl, doc, pm, an, ct, ho, hcd⟩ := Z.fn
  obtain ⟨ar, hp, ear⟩ := S.hp
  obtain ⟨pl, hev⟩ := hev s.heap.objs.size
  refine ks_codeAny_call_defAt (binds := binds) hroom (X _ _ ho) rfl hlim (codeRec_of X hcd) rfl (hbind doc pm an ct) S.nc hloc (fun h₀ hns hk => ?_) S.co S.ge S.kd
  have X0 : K.In h₀ := X.keeps hk
  have hx0 := hk _ _ hx
  have hL : s.heap.objs.size ≠ x := Nat.ne_of_gt (Heap.lt_size hx)
  have G0 := G.keeps hk
  have B0 := Bl.keeps hk
  obtain ⟨cl, cld, csl, hcell⟩ := Z.cell
  obtain ⟨ccl, cdd, vs, ccs, file, tf, hcode, hvs, hfile⟩ := Z.code
  obtain ⟨cdC, hcC⟩ : ∃ cd, clsIn K C = some cd := by
    obtain ⟨cd, hc, _⟩ := any_some Z.hd
    exact ⟨cd, hc⟩
  obtain ⟨oC, hC1, hC2⟩ : ∃ oC, h₀.get? C = some oC ∧ oC.data = .cls cdC := by
    have hc := hcC
    unfold clsIn at hc
    split at hc
    · rename_i c d cd' sl ho
      cases hc
      exact ⟨_, X0 _ _ ho, rfl⟩
    · cases hc
  have I0 : InstAt h₀ x (excO C t0) C none := ⟨hx0, rfl, rfl, trivial⟩
  have hkA : scope.names.lookup ar.arg = some .local := by rw [ear]; exact S.ka
  refine ks_wpAt_execs_cons (ks_wpAt_Expr_any (ks_wpAt_MethodCall (pl := pl) ?_ hev) (quiet_of S.kd) (by first | rfl | exact rfl))
  refine ks_wpAt_super_base (f := fI) (cc := cda) (ar := ar) S.ks S.kc (by decide) rfl (X0 _ _ ho) rfl hp rfl (X0 _ _ hcode) rfl hvs hfile Z.top ?_
  refine ks_loadName_global S.kd S.ks (loadGlobal_builtin G0 gs B0 bs ⟨rfl, ?_⟩)
  refine wpAny_loadName_free S.kd S.kc rfl ⟨_, X0 _ _ hcell, rfl⟩ ?_
  refine wpAny_loadName_local S.kd hkA hns (v := .ref x) (by show binds.reverse.lookup ar.arg = _; rw [ear]; exact hself) ?_
  refine ks_wpAny_isType_cls hC1 hC2 ⟨rfl, ?_⟩
  refine ks_wpAny_call_super hC1 hC2 hx0 rfl (fun c e => by cases e) (looks_mroIn X0 Z.mC) (fun h₁ hso k₁ => ?_)
  have X1 : K.In h₁ := X0.keeps k₁
  have hx1 := k₁ _ _ hx0
  have I1 : InstAt h₁ x (excO C t0) C none := ⟨hx1, rfl, rfl, trivial⟩
  have hsu := Z.su
  unfold ks_superIn at hsu
  rw [hcC] at hsu
  refine kxs_getMethod T.kx hso (looks_opaque X1 Z.th) (l₀ := cdC.mro) (fun A Q E s k q => wpAny_bind ((looks_clsIn X1 hcC) A _ E s k (wpAny_pure q))) rfl X1 hsu (I1.type.andThen (looks_subIn X1 Z.sB)) (ks_ne X1 I1 hcC) (by decide) ?_
  have k₂ : ∀ b o, h₁.get? b = some o → (h₁.push (kxs_mw initId x)).get? b = some o := fun b o e => Heap.get?_push_of_some _ e
  have hu : (h₁.push (kxs_mw initId x)).get? h₁.objs.size = some (kxs_mw initId x) := Heap.get?_push_at rfl rfl
  refine kxs_callWith (i := initId) (x := x) (by rfl) (evalArgs_plain (Calls.spliced_cons (Calls.Constant_str (k := j) (pos := p3) (Calls.spliced_nil ⟨hu, ?_⟩))))
  obtain ⟨nm, N, qn, bs', bm, hdct, sn, sub, ab, col, dd, k0, k1, k2, k3, k5, hCo, hT⟩ := excInit_of (X1.keeps k₂) Z.q
  refine call_mw T hCo (k₂ _ _ hx1) hu (by show 1 ≤ sizeLine; rw [sizeLine_eq]; omega) fun h₃ k₃ hx3 => ?_
  refine wpAt_of_wpAny (hq h₃ _ _ ?_ (fun b o hb e => k₃ b o hb (k₂ _ _ (k₁ _ _ (hk b o e)))) hx3)
  obtain ⟨oL, es, ep, e1, e2⟩ := hns
  exact ⟨oL, es, ep, k₃ _ _ hL (k₂ _ _ (k₁ _ _ e1)), e2⟩
end
end XS
end PySem

set_option Elab.async false
set_option linter.all false
set_option maxRecDepth 100000
set_option maxHeartbeats 2000000
namespace PySem
namespace XS
open PySem.W PySem.Calls PyProof.Rows PySem.HandSPX
open Builtin Builtin.ObjectAttr
abbrev xo (C t1 : Addr) (d : Option Addr) : Obj := { cls := .ref C, dict := d, data := .fields #[.ref t1, .none, .none, .none, .bool false, .none] }
section
variable {prog : Program} {w : World} {A : Around} {E : Value → Shared → Prop} {s : Shared} {K : Frag} {C x t1 : Addr} {B : String} {bmB : List Value} {name : Str} {v : Value}
/-- self.name = v: the first one lays the object's dict -/
theorem put1 {Q : Unit → Shared → Prop} (SF : StoreFacts B bmB "object.__setattr__" "object") (X : K.In s.heap) (hx : s.heap.get? x = some (xo C t1 none)) (ov : excOver K C bmB = true) (hd : hasDictIn K C = true)
    (sa : findIn K (.ref C) "__setattr__" = some (some (.builtin "object.__setattr__"))) (ha : findIn K (.ref C) name = some none)
    (hq : ∀ h' tk' dx, (∀ b o, b ≠ x → s.heap.get? b = some o → h'.get? b = some o) → s.heap.objs.size ≤ dx → dx ≠ x → h'.get? x = some (xo C t1 (some dx)) →
      h'.Ns1 dx (fun y => if y = name then some v else none) → Q () { s with heap := h', toks := tk' }) :
    wpAny (model prog w) A (setAttr (.ref x) name v) Q E s := by
  have I : InstAt s.heap x (xo C t1 none) C none := ⟨hx, rfl, rfl, trivial⟩
  have nx : x ≠ s.heap.objs.size := Nat.ne_of_lt (Heap.lt_size hx)
  have ht : takerIn K C name = some none := by unfold takerIn; rw [ha]; rfl
  obtain ⟨cd, hc, hh⟩ := any_some hd
  refine set_plain X I sa (osa_openX SF (s := { s with toks := s.toks + 1 }) X I ov ht fun b => ?_)
  obtain ⟨hp, g, d, t, os⟩ := s
  have hcls : Looks (model prog w) hp (classData C) cd := looks_clsIn X hc
  obtain ⟨nm, bs, mro, ns, qn, hdc, sn, sb, ab, col, del⟩ := cd
  dsimp only at hh
  subst hh
  have hx' : hp.get? x = some (xo C t1 none) := hx
  show wpAny _ _ (storeInOwnDict _ _ _ _ _ _) _ _ ⟨hp, g, d, t + 1, os⟩
  unfold storeInOwnDict ownDictForStores
  repeat (first | with_reducible refine HandSPX.store_in_new ?_ ?_ | with_reducible refine wpAny_loadPart_at hx' ?_ | with_reducible refine hcls.at ?_ | wp_step)
  · exact ⟨_, #[], _, (Heap.get?_update_ne _ _ _ _ nx.symm).trans (Heap.get?_push_at rfl rfl), rfl, fun e he => absurd he (by simp), fun _ => rfl⟩
  · intro h' tk' hn' hs
    have hx₁ : (hp.push { cls := .type "dict", data := .dict #[] }).get? x = some (xo C t1 none) := Heap.get?_push_of_some _ hx'
    refine hq h' tk' hp.objs.size (fun b o hb ho => ?_) (Nat.le_refl _) nx.symm ?_ hn'
    · exact (hs.2 b (Nat.ne_of_lt (Heap.lt_size ho))).trans ((Heap.get?_update_ne _ _ _ _ hb).trans (Heap.get?_push_of_some _ ho))
    · exact (hs.2 x nx).trans (Heap.get?_update_self _ hx₁ rfl)
/-- a later one fills it -/
theorem put2 {Q : Unit → Shared → Prop} {dx : Addr} {m0 : Str → Option Value} {nl : List Str} (SF : StoreFacts B bmB "object.__setattr__" "object") (X : K.In s.heap) (hx : s.heap.get? x = some (xo C t1 (some dx))) (hns : s.heap.Ns1 dx m0) (hw : Within m0 nl) (hz : nl.length ≤ 1000)
    (ov : excOver K C bmB = true) (hd : hasDictIn K C = true)
    (sa : findIn K (.ref C) "__setattr__" = some (some (.builtin "object.__setattr__"))) (ha : findIn K (.ref C) name = some none)
    (hq : ∀ h' tk', (∀ b o, b ≠ dx → s.heap.get? b = some o → h'.get? b = some o) → h'.Ns1 dx (fun y => if y = name then some v else m0 y) → Q () { s with heap := h', toks := tk' }) :
    wpAny (model prog w) A (setAttr (.ref x) name v) Q E s := by
  obtain ⟨oD, esD, epD, hoD, hdD, _⟩ := hns.count hw
  have I : InstAt s.heap x (xo C t1 (some dx)) C (some oD) := ⟨hx, rfl, rfl, hoD⟩
  have ht : takerIn K C name = some none := by unfold takerIn; rw [ha]; rfl
  obtain ⟨cd, hc, hh⟩ := any_some hd
  refine set_plain X I sa (osa_openX SF (s := { s with toks := s.toks + 1 }) X I ov ht fun b => ?_)
  obtain ⟨hp, g, d, t, os⟩ := s
  have hcls : Looks (model prog w) hp (classData C) cd := looks_clsIn X hc
  obtain ⟨nm, bs, mro, ns, qn, hdc, sn, sb, ab, col, del⟩ := cd
  dsimp only at hh
  subst hh
  have hx' : hp.get? x = some (xo C t1 (some dx)) := hx
  have hns' : hp.Ns1 dx m0 := hns
  show wpAny _ _ (storeInOwnDict _ _ _ _ _ _) _ _ ⟨hp, g, d, t + 1, os⟩
  unfold storeInOwnDict ownDictForStores
  repeat (first | with_reducible refine OEX.store_in_old hns' hw hz ?_ | with_reducible refine wpAny_loadPart_at hx' ?_ | with_reducible refine hcls.at ?_ | wp_step)
  intro h' tk' hn' hs
  exact hq h' tk' (fun b o hb ho => (hs.2 b hb).trans ho) hn'
end

/-- an exception made: at e, of the class at C, with the fields fs -/
structure Made (h h' : Heap) (e C : Addr) (dv : Option Addr) (fs : List (Str × Value)) : Prop where
  keep : ∀ b o, h.get? b = some o → h'.get? b = some o
  new : h.objs.size ≤ e
  obj : ∃ t1, h'.get? e = some (xo C t1 dv)
  none_ : dv = none → fs = []
  some_ : ∀ d, dv = some d → h.objs.size ≤ d ∧ d ≠ e ∧ ∃ mA, h'.Ns1 d mA ∧ ∀ y, mA y = fs.lookup y

/-! ### the texts of __init__ -/
abbrev aSelf (p : Pos) : Arg := { arg := "self", annotation := none, pos := p }
abbrev aPar (n : Str) (p : Pos) : Arg := { arg := n, annotation := none, pos := p }
abbrev iArgs (l : List Arg) : Arguments := { posonlyargs := [], args := l, vararg := none, kwonlyargs := [], kw_defaults := [], kwarg := none, defaults := [] }
abbrev iSup (txt : Str) (j : Nat) (p0 p1 p2 p3 p4 p5 : Pos) : Stmt := .Expr (.Call (.Attribute (.Call (.Name "super" p0) [] [] p1) "__init__" p2) [.Constant (.str txt) j p3] [] p4) p5
abbrev iPut (f : Str) (q1 q2 q3 q4 : Pos) : Stmt := .Assign [.Attribute (.Name "self" q1) f q2] (.Name f q3) q4
abbrev iSc (l : List Str) : Scope := { kind := .function, names := (("self" : Str), NameKind.local) :: (l.map fun x => (x, NameKind.local)) ++ [(("__class__" : Str), NameKind.free), (("super" : Str), NameKind.globalImplicit)], isGenerator := false, isCoroutine := false, more := [] }
theorem sc_ok (l : List Str) (a0 : Pos) (as : List Arg) (h1 : ∀ x ∈ l, x ≠ ("super" : Str)) (h2 : ∀ x ∈ l, x ≠ ("__class__" : Str)) : ScI (iArgs (aSelf a0 :: as)) (iSc l) := by
  have lk : ∀ (y : Str) (k : NameKind), y ≠ ("self" : Str) → (∀ x ∈ l, x ≠ y) → [(("__class__" : Str), NameKind.free), (("super" : Str), NameKind.globalImplicit)].lookup y = some k → (iSc l).names.lookup y = some k := by
    intro y k h0 h h3
    show List.lookup y ((("self" : Str), NameKind.local) :: ((l.map fun x => (x, NameKind.local)) ++ [(("__class__" : Str), NameKind.free), (("super" : Str), NameKind.globalImplicit)])) = some k
    rw [List.lookup_cons, (by simpa using h0 : (y == ("self" : Str)) = false)]
    induction l with
    | nil => exact h3
    | cons a r ih =>
      have e : (y == a) = false := by simpa using fun z : y = a => h a (by simp) z.symm
      simp only [List.map_cons, List.cons_append]
      rw [List.lookup_cons, e]
      exact ih (fun x hx => h1 x (by simp [hx])) (fun x hx => h2 x (by simp [hx])) fun x hx => h x (by simp [hx])
  refine ⟨⟨aSelf a0, rfl, rfl⟩, lk _ _ (by decide) h1 (by decide), lk _ _ (by decide) h2 (by decide), rfl, rfl, fun x hx => ?_, rfl, rfl⟩
  simp only [List.cons_append, List.mem_cons, List.mem_append, List.mem_map, List.not_mem_nil, or_false] at hx
  rcases hx with rfl | ⟨y, _, rfl⟩ | rfl | rfl <;> exact fun z => nomatch z
theorem ev_sup {env : Env} {txt : Str} {j : Nat} {p0 p1 p2 p3 p4 : Pos} (hp : (p2.endLine == p4.line) = true) :
    eval (.Call (.Attribute (.Call (.Name "super" p0) [] [] p1) "__init__" p2) [.Constant (.str txt) j p3] [] p4) env = (do
      let ov ← attributeBase (.Call (.Name "super" p0) [] [] p1) "__init__" env (eval (.Call (.Name "super" p0) [] [] p1) env)
      standAt p2.atName
      let (f, first) ← holding [ov] (getMethod ov "__init__" (do return (← importBound (.Call (.Name "super" p0) [] [] p1) env).getD true))
      callWith p4 f first (backTo p4 (starEach [.Constant (.str txt) j p3] env)) []) := by
  show (do
      let ov ← attributeBase (.Call (.Name "super" p0) [] [] p1) "__init__" env (eval (.Call (.Name "super" p0) [] [] p1) env)
      standAt p2.atName
      methodCall (.Call (.Name "super" p0) [] [] p1) "__init__" p2 p4 env ov (([.Constant (.str txt) j p3] : List Expr).length + ([] : List Keyword).length) (backTo p4 (starEach [.Constant (.str txt) j p3] env)) (backToKw p4 (keywordEach [] env))) = _
  have e : methodCallForm (([.Constant (.str txt) j p3] : List Expr).length + ([] : List Keyword).length) (backTo p4 (starEach [.Constant (.str txt) j p3] env)) (backToKw p4 (keywordEach [] env)) = true := rfl
  simp only [methodCall, e, calleeOf, methodCallPos, hp, if_true, Bool.not_true, Bool.false_or, pure_bind]
  rfl
section
variable {prog : Program} {w : World} {A : Around} {E : Value → Shared → Prop} {R : Result → Shared → Prop} {s : Shared} {K : Frag} {mg mb : Str → Option Value} {C fI cc cda : Addr} {Bn newId iN B initId : String} {bmN bmB : List Value} {qual : Str}
variable {txt : Str} {j : Nat} {a0 a1 a2 p0 p1 p2 p3 p4 p5 q1 q2 q3 q4 r1 r2 r3 r4 : Pos}
/-- the class called: the object and its args are laid, then __init__ -/
theorem enter (T : Bas Bn newId iN bmN B initId bmB) {params : Arguments} {body : List Stmt} {scope : Scope} (Z : Own prog K C fI cc cda newId B initId bmB qual params body scope) {rest : List Value} (X : K.In s.heap) (hz : rest.length ≤ sizeLine)
    (hq : ∀ h1, (∀ b o, s.heap.get? b = some o → h1.get? b = some o) → h1.get? (s.heap.objs.size + 1) = some (excO C s.heap.objs.size) → K.lookup (s.heap.objs.size + 1) = none → h1.objs.size = s.heap.objs.size + 2 →
      codeAny (model prog w) (A.under (.builtin "type.__call__" ⟨.ref C :: rest, []⟩)) (.call (.ref fI) ⟨.ref (s.heap.objs.size + 1) :: rest, []⟩) (InitBack (s.heap.objs.size + 1) R) { s with heap := h1 }) :
    codeAny (model prog w) A (.call (.ref C) ⟨rest, []⟩) R s := by
  obtain ⟨nm, N', qn, bs, bm, hdct, sn, sub, ab, col, dd, k0, k1, k2, k3, k5, hC, hT⟩ := excInit_of X Z.q
  obtain ⟨oI, hoI, hcI⟩ : ∃ oI, s.heap.get? fI = some oI ∧ oI.cls = .type "function" := by
    obtain ⟨o, ho, hc⟩ := Option.map_eq_some_iff.mp (show (K.lookup fI).map (·.cls) = some (.type "function") from beq_iff_eq.mp Z.tI)
    exact ⟨o, X _ _ ho, hc⟩
  have hi : Looks (model prog w) s.heap (typeLookup (.ref C) "__init__") (some (.ref fI)) := looks_findIn X Z.iC
  have hnx : K.lookup (s.heap.objs.size + 1) = none := by
    cases e : K.lookup (s.heap.objs.size + 1) with
    | none => rfl
    | some o => exact absurd (Nat.lt_of_succ_lt (Heap.lt_size (X _ _ e))) (Nat.lt_irrefl _)
  obtain ⟨hp, g, d, tk, os⟩ := s
  refine run_call T hT hC hi (fun self => exc_bind hoI hcI self) hz (hq _ (fun b o e => Heap.get?_push_of_some _ (Heap.get?_push_of_some _ e)) (by show ((hp.push (kdv_tup rest)).push (excO C hp.objs.size)).get? (hp.objs.size + 1) = _; heap_get) hnx ?_)
  show ((hp.push (kdv_tup rest)).push (excO C hp.objs.size)).objs.size = hp.objs.size + 2
  rw [Heap.size_push, Heap.size_push]
theorem made0 (T : Bas Bn newId iN bmN B initId bmB) (Z : Own prog K C fI cc cda newId B initId bmB qual (iArgs [aSelf a0]) [iSup txt j p0 p1 p2 p3 p4 p5] (iSc []))
    (X : K.In s.heap) (hlim : s.heap.NoLimit) (G : s.heap.Ns mainGlobals mg) (gs : mg "super" = none) (Bl : s.heap.Ns builtinsNs mb) (bs : mb "super" = some (.type "super")) (hroom : A.depth + 1 < recursionLimit) (hp : (p2.endLine == p4.line) = true)
    (hq : ∀ h' tk e, Made s.heap h' e C none [] → R (.ok (.ret (.ref e))) { s with heap := h', toks := tk }) :
    codeAny (model prog w) A (.call (.ref C) ⟨[], []⟩) R s := by
  refine enter T Z X (Nat.zero_le _) fun h1 k1 he hnx hsz => ?_
  refine init_run T Z (sc_ok [] a0 [] (by simp) (by simp)) (binds := [("self", .ref (s.heap.objs.size + 1))]) (s := { s with heap := h1 }) (X.keeps k1) (hlim.keeps k1) (G.keeps k1) gs (Bl.keeps k1) bs he hnx (show A.depth + 1 < recursionLimit from hroom)
    (fun _ _ _ _ => BindsTo.of_eq (by first | rfl | with_unfolding_all rfl)) (by simp) rfl (fun L => ⟨_, ev_sup hp⟩) fun h2 tk2 t1 hns k2 he2 => ?_
  refine wpAny_execs_nil ⟨rfl, hq h2 _ _ ⟨fun b o e => k2 b o (Nat.ne_of_lt (Nat.lt_succ_of_lt (Heap.lt_size e))) (k1 b o e), Nat.le_succ _, ⟨t1, he2⟩, fun _ => rfl, fun d z => nomatch z⟩⟩
theorem lds {M : Model} {env : Env} {m : Str → Option Value} {x : Str} {pos : Pos} {v : Value} {Q : Value → Shared → Prop} (hk : env.scope.kind = .function) (hl : env.kindOf x = some .local) (hn : s.heap.Ns env.locals m) (hv : m x = some v) (hd : (x == ("__debug__" : Str)) = false) (h : Q v s) :
    wpAny M A (eval (.Name x pos) env) Q E s := wpAny_Name (wpAny_loadName_local hk hl hn hv h) hd
/-- how the parameters are bound (at written names: by rfl) -/
def Bd (qual : Str) (params : Arguments) (body : List Stmt) (scope : Scope) (fs : List Str) : Prop := ∀ (s : Shared) (cda cc : Addr) (vs : List Value) (doc pm : Value) (an : Option Addr) (ct : Value), vs.length = fs.length + 1 →
  BindsTo s (ksFn "__init__" qual params body scope .none .none doc pm an (.ref cda) ct cc) ⟨vs, []⟩ ((("self" : Str) :: fs).zip vs)
theorem made1 {f : Str} {v : Value} (T : Bas Bn newId iN bmN B initId bmB) (Z : Own prog K C fI cc cda newId B initId bmB qual (iArgs [aSelf a0, aPar f a1]) [iSup txt j p0 p1 p2 p3 p4 p5, iPut f q1 q2 q3 q4] (iSc [f]))
    (X : K.In s.heap) (hlim : s.heap.NoLimit) (G : s.heap.Ns mainGlobals mg) (gs : mg "super" = none) (Bl : s.heap.Ns builtinsNs mb) (bs : mb "super" = some (.type "super")) (hroom : A.depth + 1 < recursionLimit) (hp : (p2.endLine == p4.line) = true)
    (f1 : f ≠ "self") (f2 : f ≠ "super") (f3 : f ≠ "__class__") (f4 : (f == ("__debug__" : Str)) = false) (hf : findIn K (.ref C) f = some none) (hb : Bd qual (iArgs [aSelf a0, aPar f a1]) [iSup txt j p0 p1 p2 p3 p4 p5, iPut f q1 q2 q3 q4] (iSc [f]) [f])
    (hq : ∀ h' tk e d, Made s.heap h' e C (some d) [(f, v)] → R (.ok (.ret (.ref e))) { s with heap := h', toks := tk }) :
    codeAny (model prog w) A (.call (.ref C) ⟨[v], []⟩) R s := by
  have e0 : (f == ("self" : Str)) = false := by simpa using f1
  have e1 : (("self" : Str) == f) = false := by simpa using fun z : ("self" : Str) = f => f1 z.symm
  refine enter T Z X (by show 1 ≤ sizeLine; rw [sizeLine_eq]; omega) fun h1 k1 he hnx hsz => ?_
  refine init_run T Z (sc_ok [f] a0 [aPar f a1] (by simpa using f2) (by simpa using f3)) (binds := [("self", .ref (s.heap.objs.size + 1)), (f, v)]) (s := { s with heap := h1 }) (X.keeps k1) (hlim.keeps k1) (G.keeps k1) gs (Bl.keeps k1) bs he hnx (show A.depth + 1 < recursionLimit from hroom)
    (fun _ _ _ _ => hb _ _ _ _ _ _ _ _ rfl) (by simp [List.lookup, e0]) (by simp [List.lookup, e1]) (fun L => ⟨_, ev_sup hp⟩) fun h2 tk2 t1 hns k2 he2 => ?_
  have up : ∀ b o, s.heap.get? b = some o → h2.get? b = some o := fun b o e => k2 b o (Nat.ne_of_lt (Nat.lt_succ_of_lt (Heap.lt_size e))) (k1 b o e)
  have h2s : s.heap.objs.size ≤ h2.objs.size := Nat.le_trans (Nat.le_succ _) (Nat.le_of_lt (Heap.lt_size he2))
  have lF : (iSc [f]).names.lookup f = some .local := by simp [List.lookup, e0]
  refine wpAny_execs_cons (plainObj_wpAny_Assign_Attribute ?_ (by first | rfl | with_unfolding_all rfl))
  refine lds rfl lF hns (v := v) (by simp [List.lookup]) f4 (lds rfl rfl hns (v := .ref (s.heap.objs.size + 1)) (by simp [List.lookup, e1]) (by decide) ?_)
  refine put1 T.sf (X.keeps up) he2 Z.ov Z.hd Z.sa hf fun h3 tk3 dx k3 dn dne hx3 hn3 => ?_
  refine wpAny_execs_nil ⟨rfl, hq h3 _ _ dx ⟨fun b o e => k3 b o (Nat.ne_of_lt (Nat.lt_succ_of_lt (Heap.lt_size e))) (up b o e), Nat.le_succ _, ⟨t1, hx3⟩, (fun z => nomatch z), fun d z => ?_⟩⟩
  cases z
  refine ⟨Nat.le_trans h2s dn, dne, _, hn3, fun y => ?_⟩
  by_cases hy : y = f
  · subst hy; simp [List.lookup]
  · have : (y == f) = false := by simpa using hy
    simp [List.lookup, hy, this]
theorem made2 {f g : Str} {v u : Value} (T : Bas Bn newId iN bmN B initId bmB) (Z : Own prog K C fI cc cda newId B initId bmB qual (iArgs [aSelf a0, aPar f a1, aPar g a2]) [iSup txt j p0 p1 p2 p3 p4 p5, iPut f q1 q2 q3 q4, iPut g r1 r2 r3 r4] (iSc [f, g]))
    (X : K.In s.heap) (hlim : s.heap.NoLimit) (G : s.heap.Ns mainGlobals mg) (gs : mg "super" = none) (Bl : s.heap.Ns builtinsNs mb) (bs : mb "super" = some (.type "super")) (hroom : A.depth + 1 < recursionLimit) (hp : (p2.endLine == p4.line) = true)
    (f1 : f ≠ "self") (f2 : f ≠ "super") (f3 : f ≠ "__class__") (f4 : (f == ("__debug__" : Str)) = false) (hf : findIn K (.ref C) f = some none)
    (g1 : g ≠ "self") (g2 : g ≠ "super") (g3 : g ≠ "__class__") (g4 : (g == ("__debug__" : Str)) = false) (hg : findIn K (.ref C) g = some none) (fg : f ≠ g) (hb : Bd qual (iArgs [aSelf a0, aPar f a1, aPar g a2]) [iSup txt j p0 p1 p2 p3 p4 p5, iPut f q1 q2 q3 q4, iPut g r1 r2 r3 r4] (iSc [f, g]) [f, g])
    (hq : ∀ h' tk e d, Made s.heap h' e C (some d) [(f, v), (g, u)] → R (.ok (.ret (.ref e))) { s with heap := h', toks := tk }) :
    codeAny (model prog w) A (.call (.ref C) ⟨[v, u], []⟩) R s := by
  have e0 : (f == ("self" : Str)) = false := by simpa using f1
  have e1 : (("self" : Str) == f) = false := by simpa using fun z : ("self" : Str) = f => f1 z.symm
  have e2 : (g == ("self" : Str)) = false := by simpa using g1
  have e3 : (("self" : Str) == g) = false := by simpa using fun z : ("self" : Str) = g => g1 z.symm
  have e4 : (f == g) = false := by simpa using fg
  have e5 : (g == f) = false := by simpa using fun z : g = f => fg z.symm
  refine enter T Z X (by show 2 ≤ sizeLine; rw [sizeLine_eq]; omega) fun h1 k1 he hnx hsz => ?_
  refine init_run T Z (sc_ok [f, g] a0 [aPar f a1, aPar g a2] (by simpa using ⟨f2, g2⟩) (by simpa using ⟨f3, g3⟩)) (binds := [("self", .ref (s.heap.objs.size + 1)), (f, v), (g, u)]) (s := { s with heap := h1 }) (X.keeps k1) (hlim.keeps k1) (G.keeps k1) gs (Bl.keeps k1) bs he hnx (show A.depth + 1 < recursionLimit from hroom)
    (fun _ _ _ _ => hb _ _ _ _ _ _ _ _ rfl) (by simp [List.lookup, e0, e2, e5]) (by simp [List.lookup, e1, e3]) (fun L => ⟨_, ev_sup hp⟩) fun h2 tk2 t1 hns k2 he2 => ?_
  have up : ∀ b o, s.heap.get? b = some o → h2.get? b = some o := fun b o e => k2 b o (Nat.ne_of_lt (Nat.lt_succ_of_lt (Heap.lt_size e))) (k1 b o e)
  have h2s : s.heap.objs.size ≤ h2.objs.size := Nat.le_trans (Nat.le_succ _) (Nat.le_of_lt (Heap.lt_size he2))
  have lF : (iSc [f, g]).names.lookup f = some .local := by simp [List.lookup, e0]
  have lG : (iSc [f, g]).names.lookup g = some .local := by simp [List.lookup, e2, e5]
  refine wpAny_execs_cons (plainObj_wpAny_Assign_Attribute ?_ (by first | rfl | with_unfolding_all rfl))
  refine lds rfl lF hns (v := v) (by simp [List.lookup, e4]) f4 (lds rfl rfl hns (v := .ref (s.heap.objs.size + 1)) (by simp [List.lookup, e1, e3]) (by decide) ?_)
  refine put1 T.sf (X.keeps up) he2 Z.ov Z.hd Z.sa hf fun h3 tk3 dx k3 dn dne hx3 hn3 => ?_
  have up3 : ∀ b o, s.heap.get? b = some o → h3.get? b = some o := fun b o e => k3 b o (Nat.ne_of_lt (Nat.lt_succ_of_lt (Heap.lt_size e))) (up b o e)
  have nL : h1.objs.size ≠ s.heap.objs.size + 1 := by rw [hsz]; omega
  have ns3 : h3.Ns h1.objs.size (fun y => List.lookup y [(("self" : Str), Value.ref (s.heap.objs.size + 1)), (f, v), (g, u)].reverse) := by
    obtain ⟨oL, es, ep, z1, z2⟩ := hns
    exact ⟨oL, es, ep, k3 _ _ nL z1, z2⟩
  refine wpAny_execs_cons (plainObj_wpAny_Assign_Attribute ?_ (by first | rfl | with_unfolding_all rfl))
  refine lds rfl lG ns3 (v := u) (by simp [List.lookup, e5]) g4 (lds rfl rfl ns3 (v := .ref (s.heap.objs.size + 1)) (by simp [List.lookup, e1, e3]) (by decide) ?_)
  refine put2 T.sf (X.keeps up3) hx3 hn3 (nl := [f]) (fun y hy => ?_) (by show 1 ≤ 1000; omega) Z.ov Z.hd Z.sa hg fun h4 tk4 k4 hn4 => ?_
  · by_cases z : y = f
    · simp [z]
    · simp [z] at hy
  have dL : ∀ b o, s.heap.get? b = some o → b ≠ dx := fun b o e z => absurd (Nat.lt_of_lt_of_le (Heap.lt_size e) (Nat.le_trans h2s dn)) (by rw [z]; exact Nat.lt_irrefl _)
  refine wpAny_execs_nil ⟨rfl, hq h4 _ _ dx ⟨fun b o e => k4 b o (dL b o e) (up3 b o e), Nat.le_succ _, ⟨t1, k4 _ _ (Ne.symm dne) hx3⟩, (fun z => nomatch z), fun d z => ?_⟩⟩
  cases z
  refine ⟨Nat.le_trans h2s dn, dne, _, hn4, fun y => ?_⟩
  by_cases hy : y = f
  · subst hy
    simp [List.lookup, fg]
  · have z1 : (y == f) = false := by simpa using hy
    by_cases hz : y = g
    · subst hz
      simp [List.lookup, z1]
    · have z2 : (y == g) = false := by simpa using hz
      simp [List.lookup, hy, hz, z1, z2]
end
end XS
end PySem

set_option Elab.async false
set_option linter.all false
set_option maxRecDepth 100000
set_option maxHeartbeats 2000000
namespace PySem
namespace XS
open PySem.W PySem.Calls PyProof.Rows PySem.HandSPX
/-- the class at C makes exceptions with the fields fs -/
def MkC (P : Program) (w : World) (K : Frag) (mg : Str → Option Value) (C : Addr) (fs : List Str) : Prop :=
  ∀ (A : Around) (s : Shared) (vs : List Value) (R : Result → Shared → Prop), K.In s.heap → s.heap.NoLimit → s.heap.Ns mainGlobals mg → (∃ mb, s.heap.Ns builtinsNs mb ∧ mb "super" = some (.type "super")) → A.depth + 1 < recursionLimit → vs.length = fs.length →
    (∀ h' tk e d, Made s.heap h' e C d (fs.zip vs) → (d = none ↔ fs = []) → R (.ok (.ret (.ref e))) { s with heap := h', toks := tk }) → codeAny (model P w) A (.call (.ref C) ⟨vs, []⟩) R s
section
variable {P : Program} {w : World} {K : Frag} {mg : Str → Option Value} {C fI cc cda : Addr} {Bn newId iN B initId : String} {bmN bmB : List Value} {qual : Str}
variable {txt : Str} {j : Nat} {a0 a1 a2 p0 p1 p2 p3 p4 p5 q1 q2 q3 q4 r1 r2 r3 r4 : Pos}
theorem mkC0 (T : Bas Bn newId iN bmN B initId bmB) (Z : Own P K C fI cc cda newId B initId bmB qual (iArgs [aSelf a0]) [iSup txt j p0 p1 p2 p3 p4 p5] (iSc [])) (gs : mg "super" = none) (hp : (p2.endLine == p4.line) = true) : MkC P w K mg C [] := by
  intro A s vs R X hl G ⟨mb, hB, eB⟩ hr hn hq
  cases vs with
  | nil => exact made0 T Z X hl G gs hB eB hr hp fun h' tk e M => hq h' tk e none M ⟨fun _ => rfl, fun _ => rfl⟩
  | cons v r => cases hn
theorem mkC1 {f : Str} (T : Bas Bn newId iN bmN B initId bmB) (Z : Own P K C fI cc cda newId B initId bmB qual (iArgs [aSelf a0, aPar f a1]) [iSup txt j p0 p1 p2 p3 p4 p5, iPut f q1 q2 q3 q4] (iSc [f])) (gs : mg "super" = none) (hp : (p2.endLine == p4.line) = true)
    (f1 : f ≠ "self") (f2 : f ≠ "super") (f3 : f ≠ "__class__") (f4 : (f == ("__debug__" : Str)) = false) (hf : findIn K (.ref C) f = some none) (hb : Bd qual (iArgs [aSelf a0, aPar f a1]) [iSup txt j p0 p1 p2 p3 p4 p5, iPut f q1 q2 q3 q4] (iSc [f]) [f]) : MkC P w K mg C [f] := by
  intro A s vs R X hl G ⟨mb, hB, eB⟩ hr hn hq
  match vs, hn with
  | [v], _ => exact made1 T Z X hl G gs hB eB hr hp f1 f2 f3 f4 hf hb fun h' tk e d M => hq h' tk e (some d) M ⟨(fun z => nomatch z), fun z => nomatch z⟩
theorem mkC2 {f g : Str} (T : Bas Bn newId iN bmN B initId bmB) (Z : Own P K C fI cc cda newId B initId bmB qual (iArgs [aSelf a0, aPar f a1, aPar g a2]) [iSup txt j p0 p1 p2 p3 p4 p5, iPut f q1 q2 q3 q4, iPut g r1 r2 r3 r4] (iSc [f, g])) (gs : mg "super" = none) (hp : (p2.endLine == p4.line) = true)
    (f1 : f ≠ "self") (f2 : f ≠ "super") (f3 : f ≠ "__class__") (f4 : (f == ("__debug__" : Str)) = false) (hf : findIn K (.ref C) f = some none)
    (g1 : g ≠ "self") (g2 : g ≠ "super") (g3 : g ≠ "__class__") (g4 : (g == ("__debug__" : Str)) = false) (hg : findIn K (.ref C) g = some none) (fg : f ≠ g)
    (hb : Bd qual (iArgs [aSelf a0, aPar f a1, aPar g a2]) [iSup txt j p0 p1 p2 p3 p4 p5, iPut f q1 q2 q3 q4, iPut g r1 r2 r3 r4] (iSc [f, g]) [f, g]) : MkC P w K mg C [f, g] := by
  intro A s vs R X hl G ⟨mb, hB, eB⟩ hr hn hq
  match vs, hn with
  | [v, u], _ => exact made2 T Z X hl G gs hB eB hr hp f1 f2 f3 f4 hf g1 g2 g3 g4 hg fg hb fun h' tk e d M => hq h' tk e (some d) M ⟨(fun z => nomatch z), fun z => nomatch z⟩
end
end XS
end PySem
namespace L2
open PySem PySem.Spec PyProof.Rows
theorem relO_zip : ∀ {fs : List Str} {vs : List V} {us : List Value}, Vals vs us → ∀ y, RelO ((fs.zip vs).lookup y) ((fs.zip us).lookup y)
  | [], _, _, _, _ => trivial
  | _ :: _, _, _, .nil, _ => trivial
  | f :: fs, _, _, .cons r t, y => by
    simp only [List.zip_cons_cons, List.lookup_cons]
    cases y == f with
    | true => exact r
    | false => exact relO_zip t y
/-- what stands behind the making: raised, and as a value -/
def kMkX (C : Addr) : List Str → List V → Hp → XK → Prop
  | [], _, H, Q => Q (.ref C) none H
  | f :: fs, vs, H, Q => ∀ d, H d = none → Q (.ref C) (some d) (upd H d (.xd ((f :: fs).zip vs)))
def kMkV (C : Addr) : List Str → List V → Hp → VK → Prop
  | [], _, H, Q => ∀ e, H e = none → Q (.ref e) (upd H e (exo e C none))
  | f :: fs, vs, H, Q => ∀ d e, H d = none → H e = none → d ≠ e → Q (.ref e) (upd (upd H d (.xd ((f :: fs).zip vs))) e (exo e C (some d)))
section
variable {X : Cx} {C : Addr} {fs : List Str}
/-- the state behind the call, without the new object, and with it -/
theorem Inv.xmade {pins : List (Addr × Obj)} {σ : St} {H : Hp} {s : Shared} {h' : Heap} {tk : Nat} {e : Addr} {d : Option Addr} {vs : List V} {us : List Value} (I : Inv X pins σ H s) (r : Vals vs us) (M : PySem.XS.Made s.heap h' e C d (fs.zip us)) :
    ∃ (H' : Hp) (G : Heap), (d = none → H' = H) ∧ (∀ dd, d = some dd → H dd = none ∧ dd ≠ e ∧ H' = upd H dd (.xd (fs.zip vs))) ∧ H e = none ∧ H' e = none ∧ G.get? e = none ∧ (∀ b o, G.get? b = some o → h'.get? b = some o) ∧
      Inv X pins σ H' { s with heap := G, toks := tk } ∧ Inv X pins σ (upd H' e (exo e C d)) { s with heap := h', toks := tk } := by
  obtain ⟨G, g1, g2⟩ := restrict h' fun b => decide (b ≠ e)
  have gk : ∀ b, b ≠ e → G.get? b = h'.get? b := fun b hb => g1 b (decide_eq_true hb)
  have ge : G.get? e = none := g2 e (by simp)
  have old : ∀ b o, s.heap.get? b = some o → G.get? b = some o := fun b o q => (gk b (Nat.ne_of_lt (Nat.lt_of_lt_of_le (Heap.lt_size q) M.new))).trans (M.keep b o q)
  have back : ∀ b o, G.get? b = some o → h'.get? b = some o := fun b o q => by
    by_cases hb : b = e
    · rw [hb, ge] at q; cases q
    · rw [← gk b hb]; exact q
  have ne : H e = none := I.hok.fresh M.new
  obtain ⟨t1, ho⟩ := M.obj
  cases d with
  | none =>
    have J : Inv X pins σ H { s with heap := G, toks := tk } := I.kept (t' := tk) old
    exact ⟨H, G, fun _ => rfl, (fun dd z => nomatch z), ne, ne, ge, back, J, J.laidN back ge ne (exo_ok ho)⟩
  | some dd =>
    obtain ⟨dn, dne, mA, hns, hm⟩ := M.some_ dd rfl
    have hd : H dd = none := I.hok.fresh dn
    have ob : ObjOk X.prog X.w (upd H dd (.xd (fs.zip vs))) G dd (.xd (fs.zip vs)) := by
      refine ⟨mA, hns.at (fun o q => (gk dd dne).trans q), fun f => ?_⟩
      rw [hm]
      exact relO_zip r f
    have J : Inv X pins σ (upd H dd (.xd (fs.zip vs))) { s with heap := G, toks := tk } := I.laid (t' := tk) old dn ob
    have ne' : (upd H dd (.xd (fs.zip vs))) e = none := by rw [upd_ne (Ne.symm dne)]; exact ne
    exact ⟨_, G, (fun z => nomatch z), fun d' z => by cases z; exact ⟨hd, dne, rfl⟩, ne, ne', ge, back, J, J.laidN back ge ne' (exo_ok ho)⟩
theorem Inv.bltSuper {pins : List (Addr × Obj)} {σ : St} {H : Hp} {s : Shared} (I : Inv X pins σ H s) : ∃ mb, s.heap.Ns builtinsNs mb ∧ mb "super" = some (.type "super") := by
  obtain ⟨mb, hb, e⟩ := I.mod.blt
  exact ⟨mb, hb.keeps I.bk, (e _ (by decide)).trans (by decide +kernel)⟩
theorem run_val (T : PySem.XS.MkC X.prog X.w X.K X.mg C fs) {k : Nat} (hr : Room (k + 1) X.A) {pins : List (Addr × Obj)} {σ : St} {H : Hp} {s : Shared} {vs : List V} {us : List Value} {Q : VK} (I : Inv X pins σ H s) (r : Vals vs us) (hl : vs.length = fs.length) (h : kMkV C fs vs H Q) :
    wpAny (model X.prog X.w) X.A (call (.ref C) us) (EP X pins σ Q) X.xe s := by
  refine wpAny_call (T X.A s us _ I.kIn I.nolimit (I.mod.glob.keeps I.bk) I.bltSuper (by have := hr.dp; omega) (by rw [← r.length, hl]) fun h' tk e d M hd => ?_)
  obtain ⟨H', G, e1, e2, ne, ne', ge, bk, J, J'⟩ := I.xmade (tk := tk) r M
  refine ⟨.ref e, _, J', rfl, ?_⟩
  cases fs with
  | nil =>
    have z := hd.mpr rfl
    subst z
    rw [e1 rfl]
    exact h e ne
  | cons f fs =>
    cases d with
    | none => exact absurd (hd.mp rfl) (by simp)
    | some dd =>
      obtain ⟨hd0, dne, eH⟩ := e2 dd rfl
      rw [eH]
      exact h dd e hd0 ne dne
theorem run_mk (T : PySem.XS.MkC X.prog X.w X.K X.mg C fs) (hR : Raises X (.ref C)) {k : Nat} (hr : Room (k + 1) X.A) {pins : List (Addr × Obj)} {σ : St} {H : Hp} {s : Shared} {vs : List V} {us : List Value} {Q : XK} (I : Inv X pins σ H s) (r : Vals vs us) (hl : vs.length = fs.length) (h : kMkX C fs vs H Q) :
    wpAny (model X.prog X.w) X.A (call (.ref C) us) (MkP X pins σ Q) X.xe s := by
  refine wpAny_call (T X.A s us _ I.kIn I.nolimit (I.mod.glob.keeps I.bk) I.bltSuper (by have := hr.dp; omega) (by rw [← r.length, hl]) fun h' tk e d M hd => ?_)
  obtain ⟨H', G, e1, e2, ne, ne', ge, bk, J, J'⟩ := I.xmade (tk := tk) r M
  obtain ⟨t1, ho⟩ := M.obj
  have q : Q (.ref C) d H' := by
    cases fs with
    | nil =>
      have z := hd.mpr rfl
      subst z
      rw [e1 rfl]
      exact h
    | cons f fs =>
      cases d with
      | none => exact absurd (hd.mp rfl) (by simp)
      | some dd =>
        obtain ⟨hd0, dne, eH⟩ := e2 dd rfl
        rw [eH]
        exact h dd hd0
  exact ⟨e, _, _, { s with heap := G, toks := tk }, H', .ref C, d, rfl, J, bk, ge, ho, ⟨rfl, rfl⟩, rfl, rfl, ne', rfl, I.bare, hR, q⟩
variable {x : Str} {p pos : Pos} {e : Expr} {es : List Expr} {ta : TA} {k : Nat}
def tMkV (C : Addr) (fs : List Str) (ta : TA) : TE := fun σ H Q => ta σ H fun vs H1 => vs.length = fs.length ∧ kMkV C fs vs H1 Q
def tMkX (C : Addr) (fs : List Str) (ta : TA) : St → Hp → XK → Prop := fun σ H Q => ta σ H fun vs H1 => vs.length = fs.length ∧ kMkX C fs vs H1 Q
theorem pe_xmk (T : PySem.XS.MkC X.prog X.w X.K X.mg C fs) (kC : PySem.W.keepIn X.K (.ref C) = true) (hr : Room (k + 1) X.A) (hg : Gl X x) (hm : X.mg x = some (.ref C)) (ha : PA X (e :: es) ta)
    (hdb : (x == ("__debug__" : Str)) = false := by decide) (he : starEach (e :: es) X.env = (false, eval e X.env) :: starEach es X.env := by rfl) (hpl : (backTo pos (starEach es X.env)).any (·.1) = false := by rfl) :
    PE X (.Call (.Name x p) (e :: es) [] pos) (tMkV C fs ta) := by
  refine ⟨fun pins s σ H Q I h => ?_⟩
  refine wpAny_Call_Name_kw (ld_glob I hg hm ?_ hdb)
  exact PySem.W.callWith_K (h₀ := X.base) I.ok.mod.kin kC (thn (ha.run pos pins s σ H _ I h) fun us s1 ⟨vs, H1, I1, r, hl, q⟩ => ⟨I1.kIn, run_val T hr I1 r hl q⟩) he hpl
theorem pe_xmk0 (T : PySem.XS.MkC X.prog X.w X.K X.mg C []) (kC : PySem.W.keepIn X.K (.ref C) = true) (hr : Room (k + 1) X.A) (hg : Gl X x) (hm : X.mg x = some (.ref C)) (hdb : (x == ("__debug__" : Str)) = false := by decide) :
    PE X (.Call (.Name x p) [] [] pos) (tMkV C [] tNil) := by
  refine ⟨fun pins s σ H Q I h => ?_⟩
  refine wpAny_Call_Name_kw (ld_glob I hg hm ?_ hdb)
  exact PySem.W.callWith_K0 I.kIn kC (run_val (us := []) T hr I .nil rfl h.2)
theorem pmk_x (T : PySem.XS.MkC X.prog X.w X.K X.mg C fs) (hR : Raises X (.ref C)) (kC : PySem.W.keepIn X.K (.ref C) = true) (hr : Room (k + 1) X.A) (hg : Gl X x) (hm : X.mg x = some (.ref C)) (ha : PA X (e :: es) ta)
    (hdb : (x == ("__debug__" : Str)) = false := by decide) (he : starEach (e :: es) X.env = (false, eval e X.env) :: starEach es X.env := by rfl) (hpl : (backTo pos (starEach es X.env)).any (·.1) = false := by rfl) :
    PMk X (.Call (.Name x p) (e :: es) [] pos) (tMkX C fs ta) := by
  intro pins s σ H Q I h
  refine wpAny_Call_Name_kw (ld_glob I hg hm ?_ hdb)
  exact PySem.W.callWith_K (h₀ := X.base) I.ok.mod.kin kC (thn (ha.run pos pins s σ H _ I h) fun us s1 ⟨vs, H1, I1, r, hl, q⟩ => ⟨I1.kIn, run_mk T hR hr I1 r hl q⟩) he hpl
theorem pmk_x0 (T : PySem.XS.MkC X.prog X.w X.K X.mg C []) (hR : Raises X (.ref C)) (kC : PySem.W.keepIn X.K (.ref C) = true) (hr : Room (k + 1) X.A) (hg : Gl X x) (hm : X.mg x = some (.ref C)) (hdb : (x == ("__debug__" : Str)) = false := by decide) :
    PMk X (.Call (.Name x p) [] [] pos) (tMkX C [] tNil) := by
  intro pins s σ H Q I h
  refine wpAny_Call_Name_kw (ld_glob I hg hm ?_ hdb)
  exact PySem.W.callWith_K0 I.kIn kC (run_mk (us := []) T hR hr I .nil rfl h.2)

/-! ### an exception held as a value: its fields, its classes -/
/-- what stands at a is an exception of the class at C -/
def ExAt (H : Hp) (a C : Addr) (fs : List (Str × V)) : Prop := (fs = [] ∧ H a = some (exo a C none)) ∨ ∃ d, H a = some (exo a C (some d)) ∧ H d = some (.xd fs)
def tXfld (K : PySem.W.Frag) (ta : TE) (n : Str) : TE := fun σ H Q => ta σ H fun x H1 => ∃ a C d fs v, x = .ref a ∧ H1 a = some (exo a C (some d)) ∧ H1 d = some (.xd fs) ∧ XfC K C ∧ PySem.W.findIn K (.ref C) n = some none ∧ fs.lookup n = some v ∧ Q v H1
theorem pe_xfld {n : Str} {te : TE} (he : PE X e te) (hb : attributeBase e n X.env (eval e X.env) = eval e X.env := by rfl) : PE X (.Attribute e n pos) (tXfld X.K te n) := by
  refine ⟨fun pins s σ H Q I h => ?_⟩
  refine attr_of hb (thn (he.run pins s σ H _ I h) fun u s1 hh => ?_)
  obtain ⟨x, H1, I1, rx, a, C, d, fs, v, ex, ea, ed, T, hno, l, q⟩ := hh
  subst ex
  obtain rfl : u = Value.ref a := rx
  obtain ⟨t1, ho⟩ := exo_at I1.hok ea
  have hx : ObjOk X.prog X.w H1 s1.heap d (.xd fs) := I1.hok d _ ed
  obtain ⟨mA, hns, hr⟩ := hx
  obtain ⟨od, hod, hl⟩ := lookIn_ns hns
  obtain ⟨u, hu, ru⟩ := RelO.some_of (v := v) (o := mA n) (by rw [← l]; exact hr n)
  have J : PySem.W.InstAt s1.heap a (PySem.XS.xo C t1 (some d)) C (some od) := ⟨ho, rfl, rfl, hod⟩
  exact HandSPX.exc_get I1.kIn J T.ga T.gg T.exC (PySem.W.findObj_own T.hdC hno rfl (by rw [hl, hu])) (handed_of ru) ⟨v, H1, I1.tok _, ru, q⟩
/-- what the class must say, so that isinstance asks its instances rightly -/
def isB (K : PySem.W.Frag) (C : Addr) : Bool :=
  decide (PySem.W.findIn K (.ref C) "__getattribute__" = some (some (.builtin "BaseException.__getattribute__"))) && (decide (PySem.W.findIn K (.ref C) "__getattr__" = some none) && (decide (PySem.W.subIn K (.ref C) (.type "BaseException") = some true) && (PySem.W.hasDictIn K C &&
  (decide (PySem.W.findIn K (.ref C) "__class__" = some (some (.builtin "object.__class__"))) && (decide (PySem.W.specialIn K (.builtin "object.__class__") "__get__" = some (some (.builtin "getset_descriptor.__get__"))) && (decide (PySem.W.takesIn K (.builtin "object.__class__") = some true) && decide (PySem.W.mroIn K C (.type "object") = some true)))))))
theorem isB_ok {K : PySem.W.Frag} {C x : Addr} {ox : Obj} {od : Option Obj} (h : isB K C = true) : PySem.W.KitX K (.ref x) (.ref C) (fun h => PySem.W.InstAt h x ox C od) := by
  obtain ⟨h1, h⟩ := Bool.and_eq_true_iff.mp h
  obtain ⟨h2, h⟩ := Bool.and_eq_true_iff.mp h
  obtain ⟨h3, h⟩ := Bool.and_eq_true_iff.mp h
  obtain ⟨h4, h⟩ := Bool.and_eq_true_iff.mp h
  obtain ⟨h5, h⟩ := Bool.and_eq_true_iff.mp h
  obtain ⟨h6, h⟩ := Bool.and_eq_true_iff.mp h
  obtain ⟨h7, h8⟩ := Bool.and_eq_true_iff.mp h
  obtain ⟨cd, hc, _⟩ := PySem.W.any_some h4
  exact PySem.W.kitx_exc (by rw [hc]; rfl) (of_decide_eq_true h1) (of_decide_eq_true h2) (of_decide_eq_true h3) (of_decide_eq_true h5) (of_decide_eq_true h6) (of_decide_eq_true h7) (of_decide_eq_true h8)
def rIsX (K : PySem.W.Frag) : List V → Hp → VK → Prop := fun xs H Q => ∃ (a C : Addr) (fs : List (Str × V)) (c : V) (cv : Value) (b : Bool), xs = [.ref a, c] ∧ ExAt H a C fs ∧ isB K C = true ∧ (∀ u, RelV c u → u = cv) ∧ PySem.W.kitOne K (.ref C) cv = some b ∧ Q (.bl b) H
theorem call_isX : CallR X (.builtin "isinstance") (rIsX X.K) := by
  intro pins s σ H xs us Q I r h
  obtain ⟨a, C, fs, c, cv, b, rfl, hE, hC, hcv, e, q⟩ := h
  cases r with
  | cons rx rr =>
    cases rr with
    | cons rt rr =>
      cases rr
      cases rx
      have ec := hcv _ rt
      subst ec
      rcases hE with ⟨_, ha⟩ | ⟨d, ha, hd⟩
      · obtain ⟨t1, ho⟩ := exo_at I.hok ha
        have J : PySem.W.InstAt s.heap a (PySem.XS.xo C t1 none) C none := ⟨ho, rfl, rfl, trivial⟩
        exact PySem.W.kia_one (isB_ok hC) I.kIn J e (fun z => nomatch z) fun tk => ⟨.bl b, H, I.kept (t' := tk) fun _ _ z => z, rfl, q⟩
      · obtain ⟨t1, ho⟩ := exo_at I.hok ha
        have hx : ObjOk X.prog X.w H s.heap d (.xd fs) := I.hok d _ hd
        obtain ⟨mA, ⟨od, es, ep, hod, _⟩, hr⟩ := hx
        have J : PySem.W.InstAt s.heap a (PySem.XS.xo C t1 (some d)) C (some od) := ⟨ho, rfl, rfl, hod⟩
        exact PySem.W.kia_one (isB_ok hC) I.kIn J e (fun z => nomatch z) fun tk => ⟨.bl b, H, I.kept (t' := tk) fun _ _ z => z, rfl, q⟩
end
end L2

set_option Elab.async false
set_option linter.all false
set_option maxRecDepth 100000
set_option maxHeartbeats 2000000
/-! GG: promises of defs that are called where no repr is under way (Around.guards = some []); repr of data. -/
namespace L2
open PySem PySem.Spec PyProof.Rows
/-- as FnOk, for calls where no repr is under way -/
structure FnG (P : Program) (w : World) (K : PySem.W.Frag) (mg : Str → Option Value) (base : Heap) (CX : CXT) (k : Nat) (f : Addr) (fd : FuncData) (ps : List Str) (sp : Sp) : Prop where
  len : ∀ vs H Q E, sp vs H Q E → vs.length = ps.length
  run : ∀ (A : Around) (outer : List Env) (s : Shared) (H : Hp) (args : Args) (us : List Value) (vs : List V) (Q : VK) (E : XK), A.guards = some [] → Room k A → Env0 P w K mg base A outer s H → BindsTo s fd args (ps.zip us) → Vals vs us → sp vs H Q E →
    codeAny (model P w) A (.call (.ref f) args) (CR CX outer P w H s Q E) s
section
variable {P : Program} {w : World} {K : PySem.W.Frag} {mg : Str → Option Value} {base : Heap} {CX : CXT}
theorem FnG.mono {j k : Nat} {f : Addr} {fd : FuncData} {ps : List Str} {sp : Sp} (F : FnG P w K mg base CX j f fd ps sp) (h : j ≤ k) : FnG P w K mg base CX k f fd ps sp :=
  ⟨F.len, fun A outer s H args us vs Q E g hr => F.run A outer s H args us vs Q E g (hr.mono h)⟩
theorem FnOk.g {k : Nat} {f : Addr} {fd : FuncData} {ps : List Str} {sp : Sp} (F : FnOk P w K mg base CX k f fd ps sp) : FnG P w K mg base CX k f fd ps sp :=
  ⟨F.len, fun A outer s H args us vs Q E _ => F.run A outer s H args us vs Q E⟩
/-- a def by its body -/
theorem fnG_of {k : Nat} {f : Addr} {name qual : Str} {params : Arguments} {body : List Stmt} {scope : Scope} {dV kV doc pm cdv ct oc : Value} {an od : Option Addr}
    {osl : Array (Option Value)} {N ps : List Str} {sp : Sp} (lk : K.lookup f = some ⟨oc, od, .func (PySem.W.fnOf name qual params body scope dV kV doc pm an cdv ct), osl⟩) (hcd : PySem.W.codeIn K cdv qual = true) (S : FnScope N ps scope)
    (len : ∀ vs H Q E, sp vs H Q E → vs.length = ps.length)
    (hbody : ∀ (A : Around) (outer : List Env) (s : Shared) (H : Hp) (vs : List V) (Q : VK) (E : XK), A.guards = some [] → Room k (A.deeper (envOfC qual scope s.heap.objs.size f cdv)) → sp vs H Q E →
      ∃ t, PSs (cxOf CX P w K mg base N qual scope f cdv A outer s H E) body t ∧ t { nx := fun _ H' => Q .non H', rt := Q } (start N vs) H) :
    FnG P w K mg base CX (k + 1) f (PySem.W.fnOf name qual params body scope dV kV doc pm an cdv ct) ps sp where
  len := len
  run := fun A outer s H args us vs Q E hgs hr e0 hb r hsp => by
    have up : ∀ b o, base.get? b = some o → s.heap.get? b = some o := fun b o e => (e0.bs b o e).1
    have kin : K.In s.heap := e0.mod.kin.keeps up
    refine codeAny_call_function hr.depth (kin _ _ lk) rfl S.co S.gen rfl (PySem.W.codeRec_of kin hcd) (hb _ _ _ _ ?_)
    refine wpAny_newFunctionEnv_cells S.kind (fun y hy => ?_) fun env he s1 x => ?_
    · rcases S.par y.1 (List.of_mem_zip hy).1 with q | q
      · exact .inl q
      · exact .inr ⟨q, PySem.W.cellsFrom_some _ _ _ (.inl q)⟩
    subst he
    refine ⟨(e0.mod.nolimit.keeps up).keeps x.toInCall.keep, codeAny_func ?_⟩
    obtain ⟨t, ht, hq⟩ := hbody A outer s H vs Q E hgs (hr.deeper _) hsp
    have I := inv_start (CX := CX) (E := E) S hr.hd e0 (len _ _ _ _ hsp) r x
    refine wpAny_mono (ht.run [] s1 (start N vs) H _ I hq) (fun fl s' hs => ?_) fun e s' hs => hs
    match fl, hs with
    | .ret u, ⟨v, σ', H', J, rv, q⟩ => exact ⟨v, H', J.os, J.bare, J.base, J.hok, rv, q⟩
    | .next, ⟨σ', H', J, q⟩ => exact ⟨V.non, H', J.os, J.bare, J.base, J.hok, rfl, q⟩
    | .brk, ⟨_, _, _, q⟩ => exact False.elim q
    | .cont, ⟨_, _, _, q⟩ => exact False.elim q
theorem Fun.okG {x qual : Str} {st : Stmt} {f : Addr} {fd : FuncData} {N ps : List Str} {k : Nat} {sp : Sp} (F : Fun K x qual st f fd) (S : FnScope N ps (defScope st)) (len : ∀ vs H Q E, sp vs H Q E → vs.length = ps.length)
    (hbody : ∀ (cdv : Value) (A : Around) (outer : List Env) (s : Shared) (H : Hp) (vs : List V) (Q : VK) (E : XK), A.guards = some [] → Room k (A.deeper (envOfC qual (defScope st) s.heap.objs.size f cdv)) → sp vs H Q E →
      ∃ t, PSs (cxOf CX0 P w K mg base N qual (defScope st) f cdv A outer s H E).nox (defBody st) t ∧ t { nx := fun _ H' => Q .non H', rt := Q } (start N vs) H) : FnG P w K mg base CX0 (k + 1) f fd ps sp := by
  obtain ⟨oc, od, kV, doc, pm, an, cdv, ct, osl, rfl, lk, hcd⟩ := F.ex
  refine fnG_of lk hcd S len fun A outer s H vs Q E hg hr hsp => ?_
  obtain ⟨t, h, q⟩ := hbody cdv A outer s H vs Q E hg hr hsp
  exact ⟨t, h.nox, q⟩
theorem Fun.okGX {x qual : Str} {st : Stmt} {f : Addr} {fd : FuncData} {N ps : List Str} {k : Nat} {sp : Sp} (F : Fun K x qual st f fd) (S : FnScope N ps (defScope st)) (len : ∀ vs H Q E, sp vs H Q E → vs.length = ps.length)
    (hbody : ∀ (cdv : Value) (A : Around) (outer : List Env) (s : Shared) (H : Hp) (vs : List V) (Q : VK) (E : XK), A.guards = some [] → Room k (A.deeper (envOfC qual (defScope st) s.heap.objs.size f cdv)) → sp vs H Q E →
      ∃ t, PSs (cxOf CX P w K mg base N qual (defScope st) f cdv A outer s H E) (defBody st) t ∧ t { nx := fun _ H' => Q .non H', rt := Q } (start N vs) H) : FnG P w K mg base CX (k + 1) f fd ps sp := by
  obtain ⟨oc, od, kV, doc, pm, an, cdv, ct, osl, rfl, lk, hcd⟩ := F.ex
  exact fnG_of lk hcd S len fun A outer s H vs Q E hg hr hsp => hbody cdv A outer s H vs Q E hg hr hsp
end
section
variable {X : Cx} {CX : CXT} {k : Nat} {f : Addr} {fd : FuncData} {ps : List Str} {sp : Sp} {dvs : List V} {ds : List Value} {E : XK} {x : Str} {p pos : Pos} {e : Expr} {es : List Expr} {t : TA}
theorem run_fnG {pins : List (Addr × Obj)} {σ : St} {H : Hp} {s : Shared} {Q : VK} {us : List Value} {vs : List V} (F : FnG X.prog X.w X.K X.mg X.base CX k f fd ps sp) (hgs : X.A.guards = some []) (hr : Room k X.A) (hb : Binds X.K fd ps ds) (hd : Vals dvs ds) (hx : Passes CX X E)
    (I : Inv X pins σ H s) (r : Vals vs us) (h : sp (vs ++ dvs) H Q E) : wpAny (model X.prog X.w) X.A (call (.ref f) us) (EP X pins σ Q) X.xe s := by
  have r2 := r.append hd
  refine wpAny_call (codeAny_mono (F.run X.A X.stack s H ⟨us, []⟩ (us ++ ds) (vs ++ dvs) Q E hgs hr I.env0 (hb s us I.kIn (r2.length.symm.trans (F.len _ _ _ _ h))) r2 h) fun r s' hq => ?_)
  match r, hq with
  | .error e, hq => exact hx pins σ H s e s' I hq
  | .ok (.ret u), hq => exact I.after hq
  | .ok .next, hq => exact False.elim hq
  | .ok .brk, hq => exact False.elim hq
  | .ok .cont, hq => exact False.elim hq
theorem pe_callG (F : FnG X.prog X.w X.K X.mg X.base CX k f fd ps sp) (hgs : X.A.guards = some []) (hr : Room k X.A) (hg : Gl X x) (hm : X.mg x = some (.ref f)) (hk : PySem.W.keepIn X.K (.ref f) = true) (hb : Binds X.K fd ps ds) (hd : Vals dvs ds) (hx : Passes CX X E)
    (ha : PA X (e :: es) t) (hdb : (x == ("__debug__" : Str)) = false := by decide) (he : starEach (e :: es) X.env = (false, eval e X.env) :: starEach es X.env := by rfl) (hpl : (backTo pos (starEach es X.env)).any (·.1) = false := by rfl) :
    PE X (.Call (.Name x p) (e :: es) [] pos) (tCall sp dvs E t) := by
  refine ⟨fun pins s σ H Q I h => ?_⟩
  refine wpAny_Call_Name_kw (ld_glob I hg hm ?_ hdb)
  exact PySem.W.callWith_K (h₀ := X.base) I.ok.mod.kin hk (thn (ha.run pos pins s σ H _ I h) fun us s1 ⟨vs, H1, I1, r, q⟩ => ⟨I1.kIn, run_fnG F hgs hr hb hd hx I1 r q⟩) he hpl
end
end L2

set_option Elab.async false
set_option linter.all false
set_option maxRecDepth 100000
set_option maxHeartbeats 2000000
namespace L2
open PySem PySem.Spec PyProof.Rows
/-- the law's call, by a promise that holds where no repr is under way -/
theorem law_callG {P : Program} {w : World} {K : PySem.W.Frag} {mg mb : Str → Option Value} {CX : CXT} {k : Nat} {fa a : Addr} {fd : FuncData} {x : Str} {sp : Sp} {s₁ : Shared} {vs : List Value} {ns : List Int}
    (KX : K.In s₁.heap) (hns : s₁.heap.Ns mainGlobals mg) (hb : s₁.heap.Ns builtinsNs mb) (hbb : ∀ x : Str, x ≠ "__name__" → mb x = bootBuiltins x) (hlim : s₁.heap.NoLimit) (hg : s₁.gens = #[])
    (ha : s₁.heap.get? a = some { cls := .type "list", data := .seq vs.toArray }) (hi : IntsAre vs ns) (hl : ns.length ≤ sizeLine) (hr : Room k callerA)
    (F : ∀ base : Heap, K.In base → base.Ns mainGlobals mg → FnG P w K mg base CX k fa fd [x] sp) (hbind : ∀ (s : Shared) (u : Value), BindsTo s fd ⟨[u], []⟩ [(x, u)])
    (hsp : ∀ H : Hp, Only H → SqL K H a (ns.map V.int) → sp [.ref a] H (fun v _ => v = .bl true) fun _ _ _ => False)
    (hCX : ∀ H e s', CX [] H s₁ (fun _ _ _ => False) e s' → False) :
    codeAny (model P w) callerA (.call (.ref fa) ⟨[.ref a], []⟩) (fun r s' => r = .ok (.ret (.bool true)) ∧ OldK s₁.heap s'.heap ∧ s'.os = s₁.os ∧ AllBare s'.gens) s₁ := by
  have rv := vals_ints hi
  -- H: nothing is tracked but the script, perhaps
  have main : ∀ H : Hp, Only H → SqL K H a (ns.map V.int) → HOk P w H s₁.heap → (∀ b, H b ≠ none → b = a ∧ K.lookup a = none) →
      codeAny (model P w) callerA (.call (.ref fa) ⟨[.ref a], []⟩) (fun r s' => r = .ok (.ret (.bool true)) ∧ OldK s₁.heap s'.heap ∧ s'.os = s₁.os ∧ AllBare s'.gens) s₁ := by
    intro H hO hS hok hA
    have nD : ∀ {b : Addr} {o : Obj} {es : Array DictEntry} {ep : Nat}, s₁.heap.get? b = some o → o.data = .dict es ep → H b = none := fun {b o es ep} e d => by
      refine Classical.byContradiction fun n => ?_
      obtain ⟨rfl, _⟩ := hA b n
      rw [ha] at e
      cases e
      exact nomatch d
    have nK : ∀ {b : Addr} {o : Obj}, K.lookup b = some o → H b = none := fun {b o} e => by
      refine Classical.byContradiction fun n => ?_
      obtain ⟨rfl, z⟩ := hA b n
      rw [z] at e
      cases e
    have ns' : ∀ {b : Addr} {m : Str → Option Value}, s₁.heap.Ns b m → (hidT s₁.heap H).Ns b m := fun {b m} ⟨o, es, ep, e, d, r⟩ => ⟨o, es, ep, hidT_get e (nD e d), d, r⟩
    have kin : K.In (hidT s₁.heap H) := fun b o e => hidT_get (KX b o e) (nK e)
    have md : Mod K mg (hidT s₁.heap H) := by
      obtain ⟨mc, h1, h2⟩ := hlim
      exact ⟨kin, ns' hns, ⟨mb, ns' hb, hbb⟩, ⟨mc, ns' h1, h2⟩⟩
    have e0 : Env0 P w K mg (hidT s₁.heap H) callerA [] s₁ H := ⟨rfl, md, fun b o e => of_hidT e, Nat.le_of_eq (hidT_size _ _), trivial, fun b z => by simp [frs] at z, hok, .of_eq hg⟩
    refine codeAny_mono ((F _ kin (ns' hns)).run callerA [] s₁ H ⟨[.ref a], []⟩ [.ref a] [.ref a] _ _ rfl hr e0 (hbind s₁ (.ref a)) (.cons rfl .nil) (hsp H hO hS)) fun r s' h => ?_
    match r, h with
    | .error e, h => exact (hCX H e s' h).elim
    | .ok .next, h => exact False.elim h
    | .ok .brk, h => exact False.elim h
    | .ok .cont, h => exact False.elim h
    | .ok (.ret u), ⟨v, H', os, bare, un, hok', r', q⟩ =>
      obtain rfl : v = .bl true := q
      obtain rfl : u = Value.bool true := r'
      refine ⟨rfl, OldK.of_keep fun b o e => ?_, os, bare⟩
      cases q : H b with
      | none => exact un.keep b o e q (by simp [frs]) (by simp)
      | some u =>
        rcases hO b with z | ⟨ob, xs, z⟩
        · rw [q] at z; cases z
        · have e1 := (hok b _ z).1
          rw [e] at e1
          cases e1
          exact (hok' b _ (un.frzs b _ _ z)).1
  cases hk : K.lookup a with
  | some o =>
    have e := KX a o hk
    rw [ha] at e
    cases e
    refine main (fun _ => none) (fun _ => .inl rfl) (.inr ⟨_, vs.toArray, _, hk, rfl, rfl, rfl, by rw [List.size_toArray, hi.length]; exact hl, by simpa using rv⟩) (fun b u z => nomatch z) fun b z => absurd rfl z
  | none =>
    refine main (fun b => if b = a then some (.frz { cls := .type "list", data := .seq vs.toArray } (.lst (ns.map V.int))) else none) (fun b => ?_) (.inl (.inr ⟨_, if_pos rfl⟩)) (fun b u z => ?_) fun b z => ⟨?_, hk⟩
    · by_cases hb : b = a
      · exact .inr ⟨_, _, if_pos hb⟩
      · exact .inl (if_neg hb)
    · by_cases hb : b = a
      · have z' := (if_pos hb).symm.trans z
        cases z'
        subst hb
        exact ⟨ha, by rw [List.length_map]; exact hl, vs, _, rv, ha⟩
      · exact absurd ((if_neg hb).symm.trans z) (fun y => nomatch y)
    · exact Classical.byContradiction fun hb => z (if_neg hb)
/-- the goal that k_head leaves, from the law's promise -/
theorem walk_ofG {l : PySem.W.OpenLaw} {n k : Nat} {q : Program} {loose : List Str} {XP : (Str → Option Value) → Heap → Prop} {YP : World → Heap → Prop} {d : DefRec} {K : Params → PySem.W.Frag} {sp : PySem.W.Frag → Sp} {x : Str}
    (hn : l.most = some n) (hn2 : n ≤ sizeLine) (hdf : d.params.defaults = []) (hr : Room k callerA)
    (hY : ∀ (w : World) (h : Heap), YP w h → (K w.params).In h)
    (F : ∀ (w : World) (mg : Str → Option Value) (fa : Addr) (h : Heap), (K w.params).In h → h.Ns mainGlobals mg → mg d.name = some (.ref fa) →
      ∃ fd : FuncData, (∀ (s : Shared) (u : Value), BindsTo s fd ⟨[u], []⟩ [(x, u)]) ∧
        ∀ base : Heap, (K w.params).In base → base.Ns mainGlobals mg → FnG l.prog w (K w.params) mg base CX0 k fa fd [x] (sp (K w.params)))
    (hsp : ∀ (K : PySem.W.Frag) (H : Hp) (a : Addr) (ns : List Int), ns.length ≤ n → Only H → SqL K H a (ns.map V.int) → sp K [.ref a] H (fun v _ => v = .bl true) fun _ _ _ => False) :
    PySem.W.WalkO q loose XP YP l.row.toRowW d [] (fun f vs => PySem.call f vs) := by
  refine Att.attach_call hn hdf fun w s₀ s₁ mg mb fa o pm cd doc a vs ns G Y ho hd hcd hmg hobj hints hlen hg => ?_
  have KX := hY w _ Y
  obtain ⟨fd, hb, hF⟩ := F w mg fa _ KX G.T.g hmg
  exact law_callG KX G.T.g G.T.b G.T.builtins G.T.nolimit hg hobj hints (Nat.le_trans hlen hn2) hr hF hb (fun H hO hS => hsp _ H a ns hlen hO hS) fun H e s' z => z

/-! ### repr of data -/
section
variable {X : Cx}
/-- repr(x), x data of any depth -/
def rRepr (K : PySem.W.Frag) : List V → Hp → VK → Prop := fun xs H Q => ∃ v d, xs = [v] ∧ Dp K H v d ∧ d.showable = true ∧ d.hasDict = false ∧ d.depth ≤ 60 ∧ d.shown.length ≤ sizeLine ∧ Q (.str d.shown) H
theorem call_reprD (hg : X.A.guards = some []) (hu : X.A.units + 64 < cLine) : CallR X (.builtin "repr") (rRepr X.K) := by
  intro pins s σ H xs us Q I r h
  obtain ⟨v, d, rfl, hd, hs, hn, hz, hl, q⟩ := h
  cases r with
  | cons rv rr =>
    rename_i u us'
    cases rr
    obtain ⟨as, rd⟩ := Dp.reads I d v u hd rv
    cases hd with
    | non =>
      cases rv
      rw [PyData.shown_none] at q
      exact PySem.P.repr_of_none ⟨.str _, H, I.tok _, ⟨_, rfl⟩, q⟩
    | bl b =>
      cases rv
      rw [PyData.shown_bool] at q
      exact PySem.P.repr_of_bool ⟨.str _, H, I.tok _, ⟨_, rfl⟩, by cases b <;> exact q⟩
    | int i =>
      obtain ⟨t, rfl⟩ := rv
      rw [PyData.shown_int] at q
      have hs' : i.natAbs.log2 < 1920 := of_decide_eq_true (by simpa only [PyData.showable] using hs)
      exact PySem.P.repr_of_int hs' ⟨.str _, H, I.tok _, ⟨_, rfl⟩, q⟩
    | str x =>
      obtain ⟨t, rfl⟩ := rv
      rw [PyData.shown_str] at q hl
      exact PySem.P.repr_of_str ⟨.str _, H, I.tok _, ⟨_, rfl⟩, q⟩ hl
    | lst hS hA =>
      cases rv
      exact repr_of_reads' rd hs (PyData.noDict_hsm hn) hg (by omega) (fun _ _ e => e) (fun h' u tk k => ⟨.str _, H, I.kept (t' := tk) k, ⟨_, rfl⟩, q⟩) hl
    | tup hS hA =>
      cases rv
      exact repr_of_reads' rd hs (PyData.noDict_hsm hn) hg (by omega) (fun _ _ e => e) (fun h' u tk k => ⟨.str _, H, I.kept (t' := tk) k, ⟨_, rfl⟩, q⟩) hl
end
end L2

set_option Elab.async false
set_option linter.all false
set_option maxRecDepth 100000
set_option maxHeartbeats 2000000
/-! GD: defs by their names. -/
namespace L2
open PySem PySem.Spec PyProof.Rows
/-- a def of the text stands under its name -/
def Def (K : PySem.W.Frag) (mg : Str → Option Value) (x : Str) (st : Stmt) : Prop := ∃ f fd, Fun K x x st f fd ∧ mg x = some (.ref f)
theorem def_mk {K : PySem.W.Frag} {h : Heap} {mg : Str → Option Value} {x : Str} {st : Stmt} {f : Addr} {oc : Value} {od an : Option Addr} {osl : Array (Option Value)} {kV doc pm cdv ct : Value} (X : K.In h) (G : h.Ns mainGlobals mg)
    (a : PySem.W.nsIn K mainGlobals x = some (some (.ref f))) (l : K.lookup f = some ⟨oc, od, .func (PySem.W.fnOf x x (defArgs st) (defBody st) (defScope st) .none kV doc pm an cdv ct), osl⟩)
    (c : PySem.W.codeIn K cdv x = true) (k : PySem.W.keepIn K (.ref f) = true) : Def K mg x st := ⟨f, _, fun_mk (st := st) l c k, PySem.W.mg_of X G a⟩
/-- the name x holds a def that keeps the promise sp -/
def HasFn (P : Program) (w : World) (K : PySem.W.Frag) (mg : Str → Option Value) (base : Heap) (CX : CXT) (k : Nat) (x : Str) (ps : List Str) (sp : Sp) : Prop :=
  ∃ f fd, FnOk P w K mg base CX k f fd ps sp ∧ mg x = some (.ref f) ∧ PySem.W.keepIn K (.ref f) = true ∧ Binds K fd ps []
def HasG (P : Program) (w : World) (K : PySem.W.Frag) (mg : Str → Option Value) (base : Heap) (CX : CXT) (k : Nat) (x : Str) (ps : List Str) (sp : Sp) : Prop :=
  ∃ f fd, FnG P w K mg base CX k f fd ps sp ∧ mg x = some (.ref f) ∧ PySem.W.keepIn K (.ref f) = true ∧ Binds K fd ps []
def tCallO (sp : Sp) (E : XK) (t : TA) : TE := fun σ H Q => t σ H fun vs H1 => sp vs H1 Q E
section
variable {X : Cx} {CX : CXT} {j k : Nat} {ps : List Str} {sp : Sp} {E : XK} {x : Str} {p pos : Pos} {e : Expr} {es : List Expr} {t : TA}
theorem pe_callO (O : HasFn X.prog X.w X.K X.mg X.base CX k x ps sp) (hr : Room j X.A) (hg : Gl X x) (hx : Passes CX X E) (ha : PA X (e :: es) t) (hjk : k ≤ j := by decide)
    (hdb : (x == ("__debug__" : Str)) = false := by decide) (he : starEach (e :: es) X.env = (false, eval e X.env) :: starEach es X.env := by rfl) (hpl : (backTo pos (starEach es X.env)).any (·.1) = false := by rfl) :
    PE X (.Call (.Name x p) (e :: es) [] pos) (tCallO sp E t) := by
  obtain ⟨f, fd, F, hm, hk, hb⟩ := O
  have q := pe_call (E := E) (dvs := []) (ds := []) (p := p) (pos := pos) F (hr.mono hjk) hg hm hk hb .nil hx ha hdb he hpl
  refine ⟨fun pins s σ H Q I h => q.run pins s σ H Q I ?_⟩
  have e : (fun (vs : List V) H1 => sp (vs ++ []) H1 Q E) = fun vs H1 => sp vs H1 Q E := by
    funext vs H1
    rw [List.append_nil]
  show t σ H (fun vs H1 => sp (vs ++ []) H1 Q E)
  rw [e]
  exact h
theorem pe_callOG (O : HasG X.prog X.w X.K X.mg X.base CX k x ps sp) (hgs : X.A.guards = some []) (hr : Room j X.A) (hg : Gl X x) (hx : Passes CX X E) (ha : PA X (e :: es) t) (hjk : k ≤ j := by decide)
    (hdb : (x == ("__debug__" : Str)) = false := by decide) (he : starEach (e :: es) X.env = (false, eval e X.env) :: starEach es X.env := by rfl) (hpl : (backTo pos (starEach es X.env)).any (·.1) = false := by rfl) :
    PE X (.Call (.Name x p) (e :: es) [] pos) (tCallO sp E t) := by
  obtain ⟨f, fd, F, hm, hk, hb⟩ := O
  have q := pe_callG (E := E) (dvs := []) (ds := []) (p := p) (pos := pos) F hgs (hr.mono hjk) hg hm hk hb .nil hx ha hdb he hpl
  refine ⟨fun pins s σ H Q I h => q.run pins s σ H Q I ?_⟩
  have e : (fun (vs : List V) H1 => sp (vs ++ []) H1 Q E) = fun vs H1 => sp vs H1 Q E := by
    funext vs H1
    rw [List.append_nil]
  show t σ H (fun vs H1 => sp (vs ++ []) H1 Q E)
  rw [e]
  exact h
end
end L2

set_option Elab.async false
set_option linter.all false
set_option maxRecDepth 100000
set_option maxHeartbeats 2000000
/-! XW: an error class's facts, asked of the written part by one check. -/
namespace L2
open PySem PySem.Spec PyProof.Rows
/-- an own error class by its name -/
structure Xc (P : Program) (w : World) (K : PySem.W.Frag) (mg : Str → Option Value) (x : Str) (C : Addr) (fs : List Str) : Prop where
  gC : mg x = some (.ref C)
  kC : PySem.W.keepIn K (.ref C) = true
  mkc : PySem.XS.MkC P w K mg C fs
  isb : isB K C = true
  xf : XfC K C
  nf : ∀ f ∈ fs, PySem.W.findIn K (.ref C) f = some none
  ra : PySem.W.subIn K (.ref C) (.type "BaseException") = some true ∧ PySem.W.typeIn K (.ref C) = some (.type "type")
def ownB (K : PySem.W.Frag) (C fI : Addr) (newId B initId : String) (bmB : List Value) (fs : List Str) : Bool :=
  PySem.W.excInitIn K C bmB newId && (PySem.W.excOver K C bmB && (PySem.W.hasDictIn K C && (decide (PySem.W.findIn K (.ref C) "__setattr__" = some (some (.builtin "object.__setattr__"))) && (decide (PySem.W.findIn K (.ref C) "__init__" = some (some (.ref fI))) && (PySem.W.isFn K (.ref fI) && (PySem.W.keepIn K (.ref C) &&
  (decide (PySem.W.ks_superIn K C C "__init__" = some (some (.builtin initId))) && (decide (PySem.W.mroIn K C (.ref C) = some true) && (decide (PySem.W.subIn K (.ref C) (.type B) = some true) && (decide (PySem.W.nsIn K cStatics "thirdparty.any" = some none) && (decide (PySem.W.nsIn K mainGlobals "super" = some none) && (isB K C && (xfB K C && (fs.all (fun f => decide (PySem.W.findIn K (.ref C) f = some none)) && decide (PySem.W.typeIn K (.ref C) = some (.type "type"))))))))))))))))
section
variable {P : Program} {w : World} {K : PySem.W.Frag} {h : Heap} {mg : Str → Option Value} {x qual : Str} {st : Stmt} {C fI cc cda : Addr} {Bn newId iN B initId : String} {bmN bmB : List Value} {fs : List Str}
variable {oc doc pm ct cl ccl : Value} {od an cld cdd : Option Addr} {osl csl ccs : Array (Option Value)} {vs : Array Value} {file : Str} {tf : Tok}
theorem own_of {params : Arguments} {body : List Stmt} {scope : Scope} (b : ownB K C fI newId B initId bmB fs = true) (top : (P.main.scope.names.lookup ("super" : Str)).isSome = false)
    (l : K.lookup fI = some ⟨oc, od, .func (PySem.W.ksFn "__init__" qual params body scope .none .none doc pm an (.ref cda) ct cc), osl⟩) (cd : PySem.W.codeIn K (.ref cda) qual = true)
    (lc : K.lookup cc = some ⟨cl, cld, .cell (some (.ref C)), csl⟩) (la : K.lookup cda = some ⟨ccl, cdd, .fields vs, ccs⟩) (hv : vs[2]? = some (.str file tf)) (hf : ((P.main.file : Str) == file) = true) :
    PySem.XS.Own P K C fI cc cda newId B initId bmB qual params body scope ∧ PySem.W.keepIn K (.ref C) = true ∧ isB K C = true ∧ XfC K C ∧ (∀ f ∈ fs, PySem.W.findIn K (.ref C) f = some none) ∧ PySem.W.nsIn K mainGlobals "super" = some none ∧ PySem.W.typeIn K (.ref C) = some (.type "type") := by
  obtain ⟨b1, b⟩ := Bool.and_eq_true_iff.mp b
  obtain ⟨b2, b⟩ := Bool.and_eq_true_iff.mp b
  obtain ⟨b3, b⟩ := Bool.and_eq_true_iff.mp b
  obtain ⟨b4, b⟩ := Bool.and_eq_true_iff.mp b
  obtain ⟨b5, b⟩ := Bool.and_eq_true_iff.mp b
  obtain ⟨b6, b⟩ := Bool.and_eq_true_iff.mp b
  obtain ⟨b7, b⟩ := Bool.and_eq_true_iff.mp b
  obtain ⟨b8, b⟩ := Bool.and_eq_true_iff.mp b
  obtain ⟨b9, b⟩ := Bool.and_eq_true_iff.mp b
  obtain ⟨b10, b⟩ := Bool.and_eq_true_iff.mp b
  obtain ⟨b11, b⟩ := Bool.and_eq_true_iff.mp b
  obtain ⟨b12, b⟩ := Bool.and_eq_true_iff.mp b
  obtain ⟨b13, b⟩ := Bool.and_eq_true_iff.mp b
  obtain ⟨b14, b⟩ := Bool.and_eq_true_iff.mp b
  obtain ⟨b15, b16⟩ := Bool.and_eq_true_iff.mp b
  exact ⟨⟨b1, b2, b3, of_decide_eq_true b4, of_decide_eq_true b5, b6, b7, of_decide_eq_true b8, of_decide_eq_true b9, of_decide_eq_true b10, of_decide_eq_true b11, ⟨_, _, _, lc⟩, ⟨_, _, _, _, _, _, la, hv, hf⟩, top, ⟨_, _, _, _, _, _, _, l, cd⟩⟩, b7, b13, xfB_ok b14,
    fun f hf => of_decide_eq_true (List.all_eq_true.mp b15 f hf), of_decide_eq_true b12, of_decide_eq_true b16⟩
open PySem.XS
variable {txt : Str} {j : Nat} {a0 a1 a2 p0 p1 p2 p3 p4 p5 q1 q2 q3 q4 r1 r2 r3 r4 : Pos}
theorem xc0 (T : Bas Bn newId iN bmN B initId bmB) (X : K.In h) (G : h.Ns mainGlobals mg) (aC : PySem.W.nsIn K mainGlobals x = some (some (.ref C)))
    (l : K.lookup fI = some ⟨oc, od, .func (PySem.W.ksFn "__init__" qual (defArgs st) (defBody st) (defScope st) .none .none doc pm an (.ref cda) ct cc), osl⟩)
    (lc : K.lookup cc = some ⟨cl, cld, .cell (some (.ref C)), csl⟩) (la : K.lookup cda = some ⟨ccl, cdd, .fields vs, ccs⟩) (cd : PySem.W.codeIn K (.ref cda) qual = true) (b : ownB K C fI newId B initId bmB [] = true)
    (hv : vs[2]? = some (.str file tf)) (hf : ((P.main.file : Str) == file) = true) (top : (P.main.scope.names.lookup ("super" : Str)).isSome = false)
    (e1 : defArgs st = iArgs [aSelf a0]) (e2 : defBody st = [iSup txt j p0 p1 p2 p3 p4 p5]) (e3 : defScope st = iSc []) (hp : (p2.endLine == p4.line) = true) : Xc P w K mg x C [] := by
  rw [e1, e2, e3] at l
  obtain ⟨Z, k, i, f, n, s, ty⟩ := own_of b top l cd lc la hv hf
  exact ⟨PySem.W.mg_of X G aC, k, mkC0 T Z (PySem.W.mg_none_of X G s) hp, i, f, n, f.exC, ty⟩
theorem xc1 {f : Str} (T : Bas Bn newId iN bmN B initId bmB) (X : K.In h) (G : h.Ns mainGlobals mg) (aC : PySem.W.nsIn K mainGlobals x = some (some (.ref C)))
    (l : K.lookup fI = some ⟨oc, od, .func (PySem.W.ksFn "__init__" qual (defArgs st) (defBody st) (defScope st) .none .none doc pm an (.ref cda) ct cc), osl⟩)
    (lc : K.lookup cc = some ⟨cl, cld, .cell (some (.ref C)), csl⟩) (la : K.lookup cda = some ⟨ccl, cdd, .fields vs, ccs⟩) (cd : PySem.W.codeIn K (.ref cda) qual = true) (b : ownB K C fI newId B initId bmB [f] = true)
    (hv : vs[2]? = some (.str file tf)) (hf : ((P.main.file : Str) == file) = true) (top : (P.main.scope.names.lookup ("super" : Str)).isSome = false)
    (e1 : defArgs st = iArgs [aSelf a0, aPar f a1]) (e2 : defBody st = [iSup txt j p0 p1 p2 p3 p4 p5, iPut f q1 q2 q3 q4]) (e3 : defScope st = iSc [f]) (hp : (p2.endLine == p4.line) = true)
    (f1 : f ≠ "self") (f2 : f ≠ "super") (f3 : f ≠ "__class__") (f4 : (f == ("__debug__" : Str)) = false) (hb : Bd qual (iArgs [aSelf a0, aPar f a1]) [iSup txt j p0 p1 p2 p3 p4 p5, iPut f q1 q2 q3 q4] (iSc [f]) [f]) : Xc P w K mg x C [f] := by
  rw [e1, e2, e3] at l
  obtain ⟨Z, k, i, xf, n, s, ty⟩ := own_of b top l cd lc la hv hf
  exact ⟨PySem.W.mg_of X G aC, k, mkC1 T Z (PySem.W.mg_none_of X G s) hp f1 f2 f3 f4 (n f (by simp)) hb, i, xf, n, xf.exC, ty⟩
theorem xc2 {f g : Str} (T : Bas Bn newId iN bmN B initId bmB) (X : K.In h) (G : h.Ns mainGlobals mg) (aC : PySem.W.nsIn K mainGlobals x = some (some (.ref C)))
    (l : K.lookup fI = some ⟨oc, od, .func (PySem.W.ksFn "__init__" qual (defArgs st) (defBody st) (defScope st) .none .none doc pm an (.ref cda) ct cc), osl⟩)
    (lc : K.lookup cc = some ⟨cl, cld, .cell (some (.ref C)), csl⟩) (la : K.lookup cda = some ⟨ccl, cdd, .fields vs, ccs⟩) (cd : PySem.W.codeIn K (.ref cda) qual = true) (b : ownB K C fI newId B initId bmB [f, g] = true)
    (hv : vs[2]? = some (.str file tf)) (hf : ((P.main.file : Str) == file) = true) (top : (P.main.scope.names.lookup ("super" : Str)).isSome = false)
    (e1 : defArgs st = iArgs [aSelf a0, aPar f a1, aPar g a2]) (e2 : defBody st = [iSup txt j p0 p1 p2 p3 p4 p5, iPut f q1 q2 q3 q4, iPut g r1 r2 r3 r4]) (e3 : defScope st = iSc [f, g]) (hp : (p2.endLine == p4.line) = true)
    (f1 : f ≠ "self") (f2 : f ≠ "super") (f3 : f ≠ "__class__") (f4 : (f == ("__debug__" : Str)) = false) (g1 : g ≠ "self") (g2 : g ≠ "super") (g3 : g ≠ "__class__") (g4 : (g == ("__debug__" : Str)) = false) (fg : f ≠ g)
    (hb : Bd qual (iArgs [aSelf a0, aPar f a1, aPar g a2]) [iSup txt j p0 p1 p2 p3 p4 p5, iPut f q1 q2 q3 q4, iPut g r1 r2 r3 r4] (iSc [f, g]) [f, g]) : Xc P w K mg x C [f, g] := by
  rw [e1, e2, e3] at l
  obtain ⟨Z, k, i, xf, n, s, ty⟩ := own_of b top l cd lc la hv hf
  exact ⟨PySem.W.mg_of X G aC, k, mkC2 T Z (PySem.W.mg_none_of X G s) hp f1 f2 f3 f4 (n f (by simp)) g1 g2 g3 g4 (n g (by simp)) fg hb, i, xf, n, xf.exC, ty⟩
end
end L2

set_option Elab.async false
set_option linter.all false
set_option maxRecDepth 100000
set_option maxHeartbeats 2000000
/-! OP: the operators of own classes: +, - , *, unary -, ==, bool(x), str(x), len(x). -/
namespace L2
open PySem PySem.Spec PyProof.Rows
/-- the class at C has the method m, which keeps the promise sp -/
def HasM (P : Program) (w : World) (K : PySem.W.Frag) (mg : Str → Option Value) (base : Heap) (CX : CXT) (k : Nat) (C : Addr) (m : Str) (ps : List Str) (sp : Sp) : Prop :=
  ∃ f fd, FnOk P w K mg base CX k f fd ps sp ∧ PySem.W.findIn K (.ref C) m = some (some (.ref f)) ∧ PySem.W.isFn K (.ref f) = true ∧ PySem.W.keepIn K (.ref f) = true ∧ Binds K fd ps []
/-- a method of the text as it stands in its class -/
def DefM (K : PySem.W.Frag) (C : Addr) (m qual : Str) (st : Stmt) : Prop := ∃ f fd, Fun K m qual st f fd ∧ PySem.W.findIn K (.ref C) m = some (some (.ref f)) ∧ PySem.W.isFn K (.ref f) = true
theorem defM_mk {K : PySem.W.Frag} {C : Addr} {m qual : Str} {st : Stmt} {f : Addr} {oc : Value} {od an : Option Addr} {osl : Array (Option Value)} {kV doc pm cdv ct : Value}
    (a : PySem.W.findIn K (.ref C) m = some (some (.ref f))) (i : PySem.W.isFn K (.ref f) = true) (l : K.lookup f = some ⟨oc, od, .func (PySem.W.fnOf m qual (defArgs st) (defBody st) (defScope st) .none kV doc pm an cdv ct), osl⟩)
    (c : PySem.W.codeIn K cdv qual = true) (k : PySem.W.keepIn K (.ref f) = true) : DefM K C m qual st := ⟨f, _, fun_mk (st := st) l c k, a, i⟩
section
variable {X : Cx} {CX : CXT} {k j : Nat} {C : Addr} {m : Str} {ps : List Str} {sp : Sp} {E : XK}
theorem run_at {A : Around} {f : Addr} {fd : FuncData} {pins : List (Addr × Obj)} {σ : St} {H : Hp} {s : Shared} {Q : VK} {us : List Value} {vs : List V} (hA : A.frames = X.A.frames) (F : FnOk X.prog X.w X.K X.mg X.base CX k f fd ps sp) (hr : Room k A) (hb : Binds X.K fd ps []) (hx : Passes CX X E)
    (I : Inv X pins σ H s) (r : Vals vs us) (h : sp vs H Q E) : wpAny (model X.prog X.w) A (call (.ref f) us) (EP X pins σ Q) X.xe s := by
  have e := I.env0
  have e0 : Env0 X.prog X.w X.K X.mg X.base A X.stack s H := ⟨by rw [hA]; exact e.frames, e.mod, e.bs, e.bsz, e.funs, e.frf, e.hok, e.bare⟩
  have hl : us.length = ps.length := r.length.symm.trans (F.len _ _ _ _ h)
  have b := hb s us I.kIn (by simpa using hl)
  rw [List.append_nil] at b
  refine wpAny_call (codeAny_mono (F.run A X.stack s H ⟨us, []⟩ us vs Q E hr e0 b r h) fun r s' hq => ?_)
  match r, hq with
  | .error e, hq => exact hx pins σ H s e s' I hq
  | .ok (.ret u), hq => exact I.after hq
  | .ok .next, hq => exact False.elim hq
  | .ok .brk, hq => exact False.elim hq
  | .ok .cont, hq => exact False.elim hq
theorem RelV.notNI {x : V} {u : Value} (r : RelV x u) : u ≠ .notImplemented := by
  cases x <;> intro e <;> subst e <;> first | (obtain ⟨_, q⟩ := r; cases q) | cases r
theorem cmpBack_of {pins : List (Addr × Obj)} {σ : St} {Q : VK} {u : Value} {s' : Shared} (h : EP X pins σ Q u s') : PySem.W.CmpBack (EP X pins σ Q) u s' := by
  obtain ⟨v, H', I, r, q⟩ := h
  have n := r.notNI
  unfold PySem.W.CmpBack
  split
  · exact absurd rfl n
  · exact ⟨v, H', I, r, q⟩
/-- x op y of two instances of the class -/
def rOwn2 (C : Addr) (sp : Sp) (E : XK) : R2 := fun x y H Q => ∃ a b dx dy fs gs, x = .ref a ∧ y = .ref b ∧ H a = some (.ins C dx fs) ∧ H b = some (.ins C dy gs) ∧ sp [.ref a, .ref b] H Q E
theorem op_own {op : Operator} (O : HasM X.prog X.w X.K X.mg X.base CX k C m ps sp) (hc : PySem.W.selfFirst X.K C = true) (hr : Room j X.A) (hx : Passes CX X E) (e : PySem.dunder op.info.2 = m := by rfl) (hjk : k ≤ j := by decide) : OpR X (binaryOp op) (rOwn2 C sp E) := by
  obtain ⟨f, fd, F, hs, hf, hk, hb⟩ := O
  subst e
  intro pins s σ H x y v u Q I rx ry h
  obtain ⟨a, b, dx, dy, fs, gs, rfl, rfl, ha, hb', q⟩ := h
  cases rx
  cases ry
  obtain ⟨mA, J, _⟩ := ins_get I.hok ha
  obtain ⟨mB, J', _⟩ := ins_get I.hok hb'
  obtain ⟨od, J, _⟩ := J.look
  obtain ⟨od', J', _⟩ := J'.look
  obtain ⟨m, hF⟩ := I.fr
  refine PySem.W.binop_K hF I.ok.mod.kin J J'.type hc hs hf ?_
  exact wpAny_mono (run_at rfl F (hr.mono hjk) hb hx I (vs := [.ref a, .ref b]) (us := [.ref a, .ref b]) (.cons rfl (.cons rfl .nil)) q) (fun _ _ z => cmpBack_of z) fun _ _ z => z
/-- -x -/
def rOwn1 (C : Addr) (sp : Sp) (E : XK) : V → Hp → VK → Prop := fun x H Q => ∃ a dx fs, x = .ref a ∧ H a = some (.ins C dx fs) ∧ sp [.ref a] H Q E
theorem un_own (O : HasM X.prog X.w X.K X.mg X.base CX k C "__neg__" ps sp) (hr : Room j X.A) (hx : Passes CX X E) (hjk : k ≤ j := by decide) : UnR X (unaryOp .USub) (rOwn1 C sp E) := by
  obtain ⟨f, fd, F, hs, hf, hk, hb⟩ := O
  intro pins s σ H x u Q I rx h
  obtain ⟨a, dx, fs, rfl, ha, q⟩ := h
  cases rx
  obtain ⟨mA, J, _⟩ := ins_get I.hok ha
  obtain ⟨od, J, _⟩ := J.look
  obtain ⟨m, hF⟩ := I.fr
  exact PySem.W.ksp_neg hF I.ok.mod.kin J hs hf (run_at rfl F (hr.mono hjk) hb hx I (vs := [.ref a]) (us := [.ref a]) (.cons rfl .nil) q)
/-- x == y, x an instance of the class, y anything -/
def rOwnEq (K : PySem.W.Frag) (C : Addr) (sp : Sp) (E : XK) : R2 := fun x y H Q => ∃ a dx fs t, x = .ref a ∧ H a = some (.ins C dx fs) ∧ TyX K H y t ∧ PySem.W.notFirst K C t = true ∧ sp [.ref a, y] H Q E
theorem op_ownEq (O : HasM X.prog X.w X.K X.mg X.base CX k C "__eq__" ps sp) (hr : Room j X.A) (hx : Passes CX X E) (hjk : k ≤ j := by decide) : OpR X (compareOp .Eq) (rOwnEq X.K C sp E) := by
  obtain ⟨f, fd, F, hs, hf, hk, hb⟩ := O
  intro pins s σ H x y v u Q I rx ry h
  obtain ⟨a, dx, fs, t, rfl, ha, ty, nf, q⟩ := h
  cases rx
  obtain ⟨mA, J, _⟩ := ins_get I.hok ha
  obtain ⟨od, J, _⟩ := J.look
  obtain ⟨m, hF⟩ := I.fr
  obtain ⟨P, Z, p, _⟩ := kit_of I ry ty
  show wpAny (model X.prog X.w) X.A (richCompare .Eq (.ref a) u) (EP X pins σ Q) X.xe s
  refine PySem.W.cmp_K (op := .Eq) hr.units0 hF I.ok.mod.kin J (Z.ty _ _ I.kIn p) nf hs hf ?_
  exact wpAny_mono (run_at rfl F (hr.mono hjk) hb hx I (vs := [.ref a, y]) (us := [.ref a, u]) (.cons rfl (.cons ry .nil)) q) (fun _ _ z => cmpBack_of z) fun _ _ z => z
/-- str(x): __str__ gives a text -/
def rOwnStr (C : Addr) (sp : Sp) (E : XK) : List V → Hp → VK → Prop := fun xs H Q => ∃ a dx fs, xs = [.ref a] ∧ H a = some (.ins C dx fs) ∧ sp [.ref a] H (fun v H' => ∃ z, v = .str z ∧ Q v H') E
theorem call_ownStr (O : HasM X.prog X.w X.K X.mg X.base CX k C "__str__" ps sp) (hr : Room j X.A) (hx : Passes CX X E) (hjk : k + 1 ≤ j := by decide) : CallR X (.type "str") (rOwnStr C sp E) := by
  obtain ⟨f, fd, F, hs, hf, hk, hb⟩ := O
  intro pins s σ H xs us Q I r h
  obtain ⟨a, dx, fs, rfl, ha, q⟩ := h
  obtain ⟨u, rfl, rx⟩ := vals1 r
  cases rx
  obtain ⟨mA, J, _⟩ := ins_get I.hok ha
  obtain ⟨od, J, _⟩ := J.look
  have rm : Room k X.A.in1.in1 := by
    have r1 := hr.mono hjk
    exact ⟨r1.hd, by have := r1.dp; show X.A.depth + 3 * k + 5 < _; omega, by have := r1.un; show X.A.units + 1 + 1 + 16 * k + 200 < _; omega⟩
  refine PySem.W.kso_call (by have := rm.un; omega) I.kIn J hs hf ?_
  refine wpAny_mono (run_at rfl F rm hb hx I (vs := [.ref a]) (us := [.ref a]) (.cons rfl .nil) q) (fun u s' z => ?_) fun _ _ z => z
  obtain ⟨v, H', I', rv, z, rfl, q'⟩ := z
  obtain ⟨t, rfl⟩ := rv
  exact ⟨.str z, H', I', ⟨t, rfl⟩, q'⟩
/-- bool(x): __bool__ gives a truth -/
theorem call_boolOwn {prog : Program} {w : World} {A : Around} {E : Value → Shared → Prop} {s : Shared} {K : PySem.W.Frag} {x C f L : Addr} {h₀ : Heap} {m : Str → Option Value} {ox : Obj} {od : Option Obj} {Q : Value → Shared → Prop} (F : Fr h₀ L s.heap m) (X₀ : K.In h₀) (I : PySem.W.InstAt s.heap x ox C od)
    (hs : PySem.W.findIn K (.ref C) "__bool__" = some (some (.ref f))) (hf : PySem.W.isFn K (.ref f) = true)
    (h : wpAny (model prog w) A.in1.in1 (call (.ref f) [.ref x]) (PySem.W.BoolBack fun b s' => Q (.bool b) s') E s) : wpAny (model prog w) A (call (.type "bool") [.ref x]) Q E s := by
  refine callType_codes (T := "bool") (Bi := Builtin.«object.__init__») (Q₁ := fun r s₁ => ∃ b, r = .bool b ∧ Q r s₁) PySem.F.called_bool (PySem.F.typeCall_bool_1 _) PySem.F.entry_object_init ?_ ?_
  · refine codeAny_of_tree ?_
    show wpAny _ A.in1.in1 (do checkBuiltinCall "bool.__new__" ⟨[.type "bool", .ref x], []⟩; again (.builtin "bool.__new__" ⟨[.type "bool", .ref x], []⟩)) _ _ s
    refine wpAny_bind (wpAny_of_eq (PySem.F.newCall_bool_1 _) (wpAny_pure ⟨plainId_quiet (by decide +kernel) _, codeAny_builtin PySem.F.entry_bool_new ?_⟩))
    rw [Around.under_plainId (by decide +kernel) _]
    have f1 := PySem.F.conv_sub_bool
    have tr : ∀ {Q' : Bool → Shared → Prop} {E' : Value → Shared → Prop}, wpAny (model prog w) A.in1.in1 (call (.ref f) [.ref x]) (PySem.W.BoolBack Q') E' s → wpAny (model prog w) A.in1.in1 (truthy (.ref x)) Q' E' s := fun z => PySem.W.truthy_K F X₀ I hs hf z
    obtain ⟨hp, g, d, tk, os⟩ := s
    repeat (any_goals (first | assumption | (with_reducible refine tr (wpAny_mono h (fun r s₁ hr => ?_) fun _ _ y => y)) | wp_step))
    cases r <;> first | exact hr.elim | skip
    rename_i b
    show wpAny _ _ _ _ _ _
    exact wpAny_pure ⟨b, rfl, hr⟩
  · rintro obj s₁ ⟨b, rfl, hq⟩
    have tb : s₁.TypeIs (.bool b) "bool" := by first | exact typeIs_bool _ _ | rfl
    exact ⟨tb, PySem.F.args_object_init_2 _ _, object_init_meets PySem.F.called_bool.init.lookup PySem.F.called_bool.made (by decide) prog w A.in1 _ s₁ ⟨tb, rfl, hq⟩⟩
/-- bool(x) -/
def rOwnBool (C : Addr) (sp : Sp) (E : XK) : List V → Hp → VK → Prop := fun xs H Q => ∃ a dx fs, xs = [.ref a] ∧ H a = some (.ins C dx fs) ∧ sp [.ref a] H (fun v H' => ∃ z, v = .bl z ∧ Q v H') E
theorem call_ownBool (O : HasM X.prog X.w X.K X.mg X.base CX k C "__bool__" ps sp) (hr : Room j X.A) (hx : Passes CX X E) (hjk : k + 1 ≤ j := by decide) : CallR X (.type "bool") (rOwnBool C sp E) := by
  obtain ⟨f, fd, F, hs, hf, hk, hb⟩ := O
  intro pins s σ H xs us Q I r h
  obtain ⟨a, dx, fs, rfl, ha, q⟩ := h
  obtain ⟨u, rfl, rx⟩ := vals1 r
  cases rx
  obtain ⟨mA, J, _⟩ := ins_get I.hok ha
  obtain ⟨od, J, _⟩ := J.look
  obtain ⟨m, hF⟩ := I.fr
  have rm : Room k X.A.in1.in1 := by
    have r1 := hr.mono hjk
    exact ⟨r1.hd, by have := r1.dp; show X.A.depth + 3 * k + 5 < _; omega, by have := r1.un; show X.A.units + 1 + 1 + 16 * k + 200 < _; omega⟩
  refine call_boolOwn hF I.ok.mod.kin J hs hf ?_
  refine wpAny_mono (run_at rfl F rm hb hx I (vs := [.ref a]) (us := [.ref a]) (.cons rfl .nil) q) (fun u s' z => ?_) fun _ _ z => z
  obtain ⟨v, H', I', rv, z, rfl, q'⟩ := z
  cases rv
  exact ⟨.bl z, H', I', rfl, q'⟩
end
end L2

set_option Elab.async false
set_option linter.all false
set_option maxRecDepth 100000
set_option maxHeartbeats 2000000
/-! TX: text * int, // by any divisor, classes and methods by their names. -/
namespace L2
open PySem PySem.Spec PyProof.Rows
section
variable {X : Cx}
def rMulS : R2 := fun x y H Q => ∃ (z : Str) (n : Int), x = .str z ∧ y = .int n ∧ MulOk z n ∧ Q (.str (Txt.mul z n)) H
theorem op_mulS : OpR X (binaryOp .Mult) rMulS := by
  intro pins s σ H x y v u Q I rx ry h
  obtain ⟨z, n, rfl, rfl, hok, q⟩ := h
  obtain ⟨t, rfl⟩ := rx
  obtain ⟨t', rfl⟩ := ry
  exact PySem.SB.mul hok fun t k => ⟨.str _, H, I.tok _, ⟨_, rfl⟩, q⟩
/-- // by any divisor but 0, below 2 ^ 9000 in size -/
def CDivZ (_ j : Int) : Prop := j ≠ 0 ∧ j.natAbs.log2 < 9000
theorem op_fdivZ : OpR X (binaryOp .FloorDiv) (rI CDivZ fun i j => .int (i.fdiv j)) := opI fun i j _ _ _ _ _ hc q => floordiv_int hc.1 q (.inl (PyProof.noPylong_of_log2 hc.2))
end
/-- the class x stands at C; its __init__ keeps the promise sp; dvs: the defaults that fill up -/
def HasC (P : Program) (w : World) (K : PySem.W.Frag) (mg : Str → Option Value) (base : Heap) (CX : CXT) (k : Nat) (C : Addr) (x : Str) (ps : List Str) (dvs : List V) (sp : Sp) : Prop :=
  ∃ f fd ds, FnOk P w K mg base CX k f fd ps sp ∧ Mk K C f ∧ mg x = some (.ref C) ∧ Binds K fd ps ds ∧ Vals dvs ds
def tMakeO (C : Addr) (sp : Sp) (dvs : List V) (E : St → XK) (t : TA) : TE := fun σ H Q => t σ H fun vs H1 => ∀ x dx, H1 x = none → H1 dx = none → dx ≠ x →
  sp (.ref x :: (vs ++ dvs)) (upd (upd H1 dx (.own x)) x (.ins C dx [])) (fun v H2 => v = .non ∧ Q (.ref x) H2) (E σ)
section
variable {X : Cx} {CX : CXT} {k j : Nat} {C f : Addr} {fd : FuncData} {ps : List Str} {sp : Sp} {dvs : List V} {ds : List Value} {E : St → XK} {x m : Str} {p pos apos : Pos} {e o : Expr} {es : List Expr} {ta : TE} {t : TA}
theorem run_makeS {pins : List (Addr × Obj)} {σ : St} {H : Hp} {s : Shared} {Q : VK} {us : List Value} {vs : List V} (M : Mk X.K C f) (F : FnOk X.prog X.w X.K X.mg X.base CX k f fd ps sp) (hr : Room (k + 1) X.A) (hb : Binds X.K fd ps ds) (hd : Vals dvs ds)
    (hx : PassesAt CX X σ (E σ)) (I : Inv X pins σ H s) (r : Vals vs us)
    (h : ∀ x dx, H x = none → H dx = none → dx ≠ x → sp (.ref x :: (vs ++ dvs)) (upd (upd H dx (.own x)) x (.ins C dx [])) (fun v H2 => v = .non ∧ Q (.ref x) H2) (E σ)) :
    wpAny (model X.prog X.w) X.A (call (.ref C) us) (EP X pins σ Q) X.xe s := by
  have q := h (s.heap.objs.size + 1) s.heap.objs.size (I.hok.fresh (Nat.le_succ _)) (I.hok.fresh (Nat.le_refl _)) (Nat.ne_of_lt (Nat.lt_succ_self _))
  have J := Inv.made (C := C) I
  have rr : Vals (V.ref (s.heap.objs.size + 1) :: (vs ++ dvs)) (Value.ref (s.heap.objs.size + 1) :: (us ++ ds)) := .cons rfl (r.append hd)
  have hl : (Value.ref (s.heap.objs.size + 1) :: us ++ ds).length = ps.length := rr.length.symm.trans (F.len _ _ _ _ q)
  refine wpAny_call (make_map (f := f) I.kIn M.makes M.init (beq_iff_eq.mp M.fn) (codeAny_mono (F.run _ X.stack _ _ ⟨Value.ref (s.heap.objs.size + 1) :: us, []⟩ (Value.ref (s.heap.objs.size + 1) :: (us ++ ds)) _ _ (E σ) (hr.make C us [])
    (J.env0.make C us []) (hb _ (Value.ref (s.heap.objs.size + 1) :: us) J.kIn hl) rr q) fun r s' hq => ?_))
  match r, hq with
  | .error e, hq => exact hx pins _ _ e s' J hq
  | .ok (.ret u), hq =>
    obtain ⟨v, H', J', rv, ev, q'⟩ := J.after hq
    subst ev
    exact ⟨rv, ⟨V.ref (s.heap.objs.size + 1), H', J', rfl, q'⟩⟩
  | .ok .next, hq => exact False.elim hq
  | .ok .brk, hq => exact False.elim hq
  | .ok .cont, hq => exact False.elim hq
theorem pe_makeS (O : HasC X.prog X.w X.K X.mg X.base CX k C x ps dvs sp) (hr : Room j X.A) (hg : Gl X x) (hx : ∀ σ, PassesAt CX X σ (E σ)) (ha : PA X (e :: es) t) (hjk : k + 1 ≤ j := by decide)
    (hdb : (x == ("__debug__" : Str)) = false := by decide) (he : starEach (e :: es) X.env = (false, eval e X.env) :: starEach es X.env := by rfl) (hpl : (backTo pos (starEach es X.env)).any (·.1) = false := by rfl) :
    PE X (.Call (.Name x p) (e :: es) [] pos) (tMakeO C sp dvs E t) := by
  obtain ⟨f, fd, ds, F, M, hm, hb, hd⟩ := O
  refine ⟨fun pins s σ H Q I h => ?_⟩
  refine wpAny_Call_Name_kw (ld_glob I hg hm ?_ hdb)
  exact PySem.W.callWith_K (h₀ := X.base) I.ok.mod.kin M.kp (thn (ha.run pos pins s σ H _ I h) fun us s1 ⟨vs, H1, I1, r, q⟩ => ⟨I1.kIn, run_makeS M F (hr.mono hjk) hb hd (hx σ) I1 r q⟩) he hpl
/-- nothing is let out -/
theorem passS {X : Cx} : ∀ σ, PassesAt (L2.CX X.prog X.w) X σ ((fun _ => E0) σ) := fun σ pins H s e s' I h => passL pins σ H s e s' I h
theorem pass0S {X : Cx} : ∀ σ, PassesAt CX0 X σ ((fun _ => E0) σ) := fun _ _ _ _ _ _ _ h => h.elim
def tMethO (C : Addr) (m : Str) (sp : Sp) (E : XK) (ta : TE) (t : TA) : TE := fun σ H Q => ta σ H fun x H1 => ∃ a dx fs, x = .ref a ∧ H1 a = some (.ins C dx fs) ∧ fs.lookup m = none ∧ t σ H1 fun vs H2 => sp (x :: vs) H2 Q E
theorem pe_methO {E : XK} {pl : Sem Bool} (he : PE X o ta) (c : Cls X.K C) (O : HasM X.prog X.w X.K X.mg X.base CX k C m ps sp) (hr : Room j X.A) (hx : Passes CX X E) (ha : PA X (e :: es) t) (hjk : k ≤ j := by decide)
    (hst : starEach (e :: es) X.env = (false, eval e X.env) :: starEach es X.env := by rfl) (hpl : (backTo pos (starEach es X.env)).any (·.1) = false := by rfl)
    (ht : eval (.Call (.Attribute o m apos) (e :: es) [] pos) X.env = (do
      let ov ← eval o X.env
      standAt apos.atName
      let (f, first) ← holding [ov] (getMethod ov m pl)
      callWith pos f first (backTo pos (starEach (e :: es) X.env)) (backToKw pos (keywordEach [] X.env))) := by rfl) :
    PE X (.Call (.Attribute o m apos) (e :: es) [] pos) (tMethO C m sp E ta t) := by
  obtain ⟨f, fd, F, hs, hf, hk, hb⟩ := O
  have q := pe_meth (E := E) (dvs := []) (ds := []) (pl := pl) (apos := apos) (pos := pos) he c ⟨hs, hf, hk⟩ F (hr.mono hjk) hb .nil hx ha hst hpl ht
  refine ⟨fun pins s σ H Q I h => q.run pins s σ H Q I ?_⟩
  have z : ∀ (x : V), (fun (vs : List V) H1 => sp (x :: (vs ++ [])) H1 Q E) = fun vs H1 => sp (x :: vs) H1 Q E := fun x => by
    funext vs H1
    rw [List.append_nil]
  have z2 : (fun (x : V) H1 => ∃ a dx fs, x = .ref a ∧ H1 a = some (.ins C dx fs) ∧ fs.lookup m = none ∧ t σ H1 fun vs H2 => sp (x :: (vs ++ [])) H2 Q E) = fun x H1 => ∃ a dx fs, x = .ref a ∧ H1 a = some (.ins C dx fs) ∧ fs.lookup m = none ∧ t σ H1 fun vs H2 => sp (x :: vs) H2 Q E := by
    funext x H1
    rw [z x]
  show ta σ H (fun (x : V) H1 => ∃ a dx fs, x = .ref a ∧ H1 a = some (.ins C dx fs) ∧ fs.lookup m = none ∧ t σ H1 fun vs H2 => sp (x :: (vs ++ [])) H2 Q E)
  rw [z2]
  exact h
end
end L2

set_option Elab.async false
set_option linter.all false
set_option maxRecDepth 100000
set_option maxHeartbeats 4000000
/-! TT: a feed that moves on, names and titles, without any program. -/
namespace L2
open PySem PySem.Spec PyProof.Rows
section
variable {P : Program} {w : World} {K : PySem.W.Frag} {mg : Str → Option Value} {base : Heap} {CX : CXT} {k : Nat} {x : Str} {ps : List Str} {sp sp' : Sp}
theorem HasFn.weak (O : HasFn P w K mg base CX k x ps sp) (h : ∀ vs H Q E, sp' vs H Q E → sp vs H Q E) : HasFn P w K mg base CX k x ps sp' := by
  obtain ⟨f, fd, F, m, kp, b⟩ := O
  exact ⟨f, fd, F.imp h, m, kp, b⟩
end
theorem sNew {H : Hp} {p : Addr} {o : HO} (h : H p = none) : Same H (upd H p o) := fun b x e => by
  rw [upd_ne (ne_of_none e h)]
  exact e
/-- a feed stands at p -/
def Fed (p : Addr) (H : Hp) : Prop := ∃ own st : Int, H p = some (.lst [.int own, .int st]) ∧ 0 ≤ own ∧ 0 < st ∧ st < 4294967296
/-- all but the feed stays; the feed stands -/
structure Mv (p : Addr) (H H' : Hp) : Prop where
  fed : Fed p H'
  but : ∀ b o, b ≠ p → H b = some o → H' b = some o
section
variable {p : Addr} {H H1 H2 : Hp}
theorem Mv.refl (h : Fed p H) : Mv p H H := ⟨h, fun _ _ _ e => e⟩
theorem Mv.trans (a : Mv p H H1) (b : Mv p H1 H2) : Mv p H H2 := ⟨b.fed, fun x o n e => b.but x o n (a.but x o n e)⟩
theorem Fed.same (h : Fed p H) (s : Same H H1) : Fed p H1 := let ⟨o, t, e, r⟩ := h; ⟨o, t, s _ _ e, r⟩
theorem Mv.same (a : Mv p H H1) (s : Same H1 H2) : Mv p H H2 := ⟨a.fed.same s, fun x o n e => s _ _ (a.but x o n e)⟩
theorem Mv.of (h : Fed p H) (s : Same H H1) : Mv p H H1 := (Mv.refl h).same s
theorem Fed.some (h : Fed p H) : ∃ o, H p = Option.some o := let ⟨_, _, e, _⟩ := h; ⟨_, e⟩
theorem Fed.ne (h : Fed p H) {b : Addr} (n : H b = none) : b ≠ p := fun z => by
  obtain ⟨o, e⟩ := h.some
  rw [z, e] at n
  cases n
/-- what is new in the later store was new in the earlier one -/
theorem Mv.free (h : Fed p H) (a : Mv p H H1) {b : Addr} (n : H1 b = none) : H b = none := by
  cases e : H b with
  | none => rfl
  | some o =>
    have nb : b ≠ p := a.fed.ne n
    rw [a.but b o nb e] at n
    cases n
theorem Mv.at (a : Mv p H H1) {b : Addr} {o : HO} (n : b ≠ p) (e : H b = some o) : H1 b = some o := a.but b o n e
/-- Same from an older store in which the feed did not stand -/
theorem Mv.old {H0 : Hp} (a : Mv p H H1) (s : Same H0 H) (n : H0 p = none) : Same H0 H1 := fun b o e => a.but b o (ne_of_none e n) (s b o e)
/-- a write at a place that is new to the first store -/
theorem Mv.upd {b : Addr} {o : HO} (h : Fed p H) (a : Mv p H H1) (n : H b = none) : Mv p H (upd H1 b o) := by
  have nb : b ≠ p := h.ne n
  refine ⟨?_, fun x o' nx e => ?_⟩
  · obtain ⟨u, t, e, r⟩ := a.fed
    exact ⟨u, t, by rw [upd_ne (Ne.symm nb)]; exact e, r⟩
  · rw [upd_ne (ne_of_none e n)]
    exact a.but x o' nx e
theorem Mv.seq {K : PySem.W.Frag} (h : Fed p H) (a : Mv p H H1) {b : Addr} {xs : List V} (n : b ≠ p) (e : SqL K H b xs) : SqL K H1 b xs := by
  rcases e with (e | ⟨o, e⟩) | e
  · exact .inl (.inl (a.but _ _ n e))
  · exact .inl (.inr ⟨o, a.but _ _ n e⟩)
  · exact .inr e
theorem Mv.sqt {K : PySem.W.Frag} (h : Fed p H) (a : Mv p H H1) {b : Addr} {xs : List V} (n : b ≠ p) (e : SqT K H b xs) : SqT K H1 b xs := by
  rcases e with (e | ⟨o, e⟩) | e
  · exact .inl (.inl (a.but _ _ n e))
  · exact .inl (.inr ⟨o, a.but _ _ n e⟩)
  · exact .inr e
end
/-! ### names -/
def LETS : Str := "abcdefghijklmnopqrstuvwxyz"
def FIGS : Str := "0123456789"
def SIGS : Str := "abcdefghijklmnopqrstuvwxyz0123456789"
def isLet (c : Nat) : Bool := decide (c ∈ LETS.cps.toList)
def isSig (c : Nat) : Bool := isLet c || decide (c ∈ FIGS.cps.toList)
def isNm (z : Str) : Bool := decide (1 ≤ z.length) && decide (z.length ≤ 6) && isLet (z.cps.getD 0 0) && z.cps.toList.all isSig
/-- a name, not the one that is never there -/
def isTl (z : Str) : Bool := isNm z && !(z == ("never" : Str))
theorem isTl_nm {z : Str} (h : isTl z = true) : isNm z = true := (Bool.and_eq_true_iff.mp h).1
theorem isTl_nv {z : Str} (h : isTl z = true) : z ≠ "never" := fun e => by subst e; revert h; decide +kernel
def sg (i : Int) : Nat := SIGS.cps.toList.getD i.toNat 0
theorem sg_at {i : Int} (h0 : 0 ≤ i) (h1 : i < 36) : atI SIGS.cps.toList i = some (sg i) := by
  have h : ∀ n : Nat, n < 36 → atI SIGS.cps.toList (n : Int) = some (sg (n : Int)) := by decide +kernel
  have e : i = ((i.toNat : Nat) : Int) := by omega
  rw [e]
  exact h _ (by omega)
/-! ### titles -/
def t0 (s k : Int) : Str := (⟨#[sg ((s + k) % 26)]⟩ : Str) ++ ((toString (s * 7 + k) : String) : Str)
def t1 (s k : Int) : Str := ("k" : Str) ++ (⟨#[sg ((s + 5 * k) % 36)]⟩ : Str)
def t2 (s k : Int) : Str := ("q0zz" : Str) ++ (⟨#[sg ((s + k) % 36)]⟩ : Str) ++ ("b" : Str)
def t3 (s k : Int) : Str := Txt.mul (⟨#[sg (k % 26)]⟩ : Str) (1 + k / 26 + s % 3)
def base4 : List Str := ["word", "truth", "number", "none"]
def tl (t : Int → Int → Str) (s : Int) (n : Nat) : List Str := (List.range n).map fun j => t s (0 + (j : Nat))
def noTwice : List Str → Bool
  | [] => true
  | x :: xs => (xs.all fun y => !(x == y)) && noTwice xs
def ttOk (t : Int → Int → Str) (n : Nat) : Bool := (List.range 26).all fun s => (tl t (s : Int) n).all isTl && noTwice (tl t (s : Int) n)
theorem tt0 : ttOk t0 40 = true := by decide +kernel
theorem tt1 : ttOk t1 36 = true := by decide +kernel
theorem tt2 : ttOk t2 36 = true := by decide +kernel
theorem tt3 : ttOk t3 36 = true := by decide +kernel
theorem tt4 : (base4.all isTl && noTwice base4) = true := by decide +kernel
theorem noTwice_nodup : ∀ {xs : List Str}, noTwice xs = true → xs.Nodup
  | [], _ => List.nodup_nil
  | x :: xs, h => by
    obtain ⟨h1, h2⟩ := Bool.and_eq_true_iff.mp h
    refine List.nodup_cons.mpr ⟨fun m => ?_, noTwice_nodup h2⟩
    have := List.all_eq_true.mp h1 x m
    simp at this
/-- good titles: names, no two alike -/
def Tls (n : Nat) (ys : List Str) : Prop := ys.length = n ∧ (∀ y ∈ ys, isTl y = true) ∧ ys.Nodup
theorem tl_take (t : Int → Int → Str) (s : Int) {n m : Nat} (h : n ≤ m) : tl t s n = (tl t s m).take n := by
  unfold tl
  rw [← List.map_take, List.take_range, Nat.min_eq_left h]
theorem tls_of {t : Int → Int → Str} {s : Int} {n m : Nat} (c : ttOk t m = true) (h0 : 0 ≤ s) (h1 : s < 26) (hn : n ≤ m) : Tls n (tl t s n) := by
  have e : s = ((s.toNat : Nat) : Int) := by omega
  have c1 := List.all_eq_true.mp c s.toNat (List.mem_range.mpr (by omega))
  rw [← e] at c1
  obtain ⟨c2, c3⟩ := Bool.and_eq_true_iff.mp c1
  rw [tl_take t s hn]
  refine ⟨?_, fun y hy => List.all_eq_true.mp c2 y (List.mem_of_mem_take hy), (noTwice_nodup c3).sublist (List.take_sublist _ _)⟩
  unfold tl
  rw [List.length_take, List.length_map, List.length_range]
  omega
theorem Tls.perm {n : Nat} {xs ys : List Str} (h : Tls n xs) (p : ys.Perm xs) : Tls n ys := ⟨p.length_eq.trans h.1, fun y hy => h.2.1 y (p.mem_iff.mp hy), p.nodup_iff.mpr h.2.2⟩
theorem Tls.take {n m : Nat} {xs : List Str} (h : Tls m xs) (k : n ≤ m) : Tls n (xs.take n) := ⟨by rw [List.length_take, h.1]; omega, fun y hy => h.2.1 y (List.mem_of_mem_take hy), h.2.2.sublist (List.take_sublist _ _)⟩
theorem tls4 : Tls 4 base4 := by
  obtain ⟨c1, c2⟩ := Bool.and_eq_true_iff.mp tt4
  exact ⟨rfl, fun y hy => List.all_eq_true.mp c1 y hy, noTwice_nodup c2⟩
theorem isNm_len {z : Str} (h : isNm z = true) : 1 ≤ z.length ∧ z.length ≤ 6 := by
  unfold isNm at h
  simp only [Bool.and_eq_true, decide_eq_true_eq] at h
  exact ⟨h.1.1.1, h.1.1.2⟩
end L2

set_option Elab.async false
set_option linter.all false
set_option maxRecDepth 100000
set_option maxHeartbeats 4000000
/-! OQ: in, len, [..] of own instances; cls(); classmethods; where a slot's wish takes what flies. -/
namespace L2
open PySem PySem.Spec PyProof.Rows
section
variable {X : Cx} {CX : CXT} {k j : Nat} {C : Addr} {m : Str} {ps : List Str} {sp : Sp} {E : XK}
/-- run_at with a wish by the slots -/
theorem run_atS {A : Around} {f : Addr} {fd : FuncData} {pins : List (Addr × Obj)} {σ : St} {H : Hp} {s : Shared} {Q : VK} {us : List Value} {vs : List V} (hA : A.frames = X.A.frames) (F : FnOk X.prog X.w X.K X.mg X.base CX k f fd ps sp) (hr : Room k A) (hb : Binds X.K fd ps []) (hx : PassesAt CX X σ E)
    (I : Inv X pins σ H s) (r : Vals vs us) (h : sp vs H Q E) : wpAny (model X.prog X.w) A (call (.ref f) us) (EP X pins σ Q) X.xe s := by
  have e := I.env0
  have e0 : Env0 X.prog X.w X.K X.mg X.base A X.stack s H := ⟨by rw [hA]; exact e.frames, e.mod, e.bs, e.bsz, e.funs, e.frf, e.hok, e.bare⟩
  have hl : us.length = ps.length := r.length.symm.trans (F.len _ _ _ _ h)
  have b := hb s us I.kIn (by simpa using hl)
  rw [List.append_nil] at b
  refine wpAny_call (codeAny_mono (F.run A X.stack s H ⟨us, []⟩ us vs Q E hr e0 b r h) fun r s' hq => ?_)
  match r, hq with
  | .error e, hq => exact hx pins H s e s' I hq
  | .ok (.ret u), hq => exact I.after hq
  | .ok .next, hq => exact False.elim hq
  | .ok .brk, hq => exact False.elim hq
  | .ok .cont, hq => exact False.elim hq
/-- x in y, y an instance of the class -/
def rOwnIn (C : Addr) (neg : Bool) (sp : Sp) (E : XK) : R2 := fun x y H Q => ∃ a dx fs, y = .ref a ∧ H a = some (.ins C dx fs) ∧ sp [.ref a, x] H (fun v H' => ∃ b, v = .bl b ∧ Q (.bl (if neg then !b else b)) H') E
theorem op_ownIn (O : HasM X.prog X.w X.K X.mg X.base CX k C "__contains__" ps sp) (hr : Room j X.A) (hx : Passes CX X E) (hjk : k ≤ j := by decide) : OpR X (compareOp .In) (rOwnIn C false sp E) := by
  obtain ⟨f, fd, F, hs, hf, hk, hb⟩ := O
  intro pins s σ H x y v u Q I rx ry h
  obtain ⟨a, dx, fs, rfl, ha, q⟩ := h
  cases ry
  obtain ⟨mA, J, _⟩ := ins_get I.hok ha
  obtain ⟨od, J, _⟩ := J.look
  obtain ⟨m, hF⟩ := I.fr
  refine PySem.W.in_K hF I.ok.mod.kin J hs hf ?_
  refine wpAny_mono (run_at rfl F (hr.mono hjk) hb hx I (vs := [.ref a, x]) (us := [.ref a, v]) (.cons rfl (.cons rx .nil)) q) (fun u s' z => ?_) fun _ _ z => z
  obtain ⟨v', H', I', rv, b, rfl, q'⟩ := z
  cases rv
  exact wpAny_truthy_bool ⟨.bl b, H', I', rfl, q'⟩
theorem op_ownNotIn (O : HasM X.prog X.w X.K X.mg X.base CX k C "__contains__" ps sp) (hr : Room j X.A) (hx : Passes CX X E) (hjk : k ≤ j := by decide) : OpR X (compareOp .NotIn) (rOwnIn C true sp E) := by
  obtain ⟨f, fd, F, hs, hf, hk, hb⟩ := O
  intro pins s σ H x y v u Q I rx ry h
  obtain ⟨a, dx, fs, rfl, ha, q⟩ := h
  cases ry
  obtain ⟨mA, J, _⟩ := ins_get I.hok ha
  obtain ⟨od, J, _⟩ := J.look
  obtain ⟨m, hF⟩ := I.fr
  refine PySem.W.notIn_K hF I.ok.mod.kin J hs hf ?_
  refine wpAny_mono (run_at rfl F (hr.mono hjk) hb hx I (vs := [.ref a, x]) (us := [.ref a, v]) (.cons rfl (.cons rx .nil)) q) (fun u s' z => ?_) fun _ _ z => z
  obtain ⟨v', H', I', rv, b, rfl, q'⟩ := z
  cases rv
  exact wpAny_truthy_bool ⟨.bl (!b), H', I', rfl, q'⟩
/-- len(x) -/
def rOwnLen (C : Addr) (sp : Sp) (E : XK) : List V → Hp → VK → Prop := fun xs H Q => ∃ a dx fs, xs = [.ref a] ∧ H a = some (.ins C dx fs) ∧ sp [.ref a] H (fun v H' => ∃ n : Int, v = .int n ∧ 0 ≤ n ∧ n < 2 ^ 63 ∧ Q v H') E
theorem call_ownLen (O : HasM X.prog X.w X.K X.mg X.base CX k C "__len__" ps sp) (hr : Room j X.A) (hx : Passes CX X E) (hjk : k + 1 ≤ j := by decide) : CallR X (.builtin "len") (rOwnLen C sp E) := by
  obtain ⟨f, fd, F, hs, hf, hk, hb⟩ := O
  intro pins s σ H xs us Q I r h
  obtain ⟨a, dx, fs, rfl, ha, q⟩ := h
  obtain ⟨u, rfl, rx⟩ := vals1 r
  cases rx
  obtain ⟨mA, J, _⟩ := ins_get I.hok ha
  obtain ⟨od, J, _⟩ := J.look
  obtain ⟨m, hF⟩ := I.fr
  refine PySem.W.len_K hF I.ok.mod.kin J hs hf ?_
  refine wpAny_mono (run_at rfl F ((hr.mono hjk).in1) hb hx I (vs := [.ref a]) (us := [.ref a]) (.cons rfl .nil) q) (fun u s' z => ?_) fun _ _ z => z
  obtain ⟨v', H', I', rv, n, rfl, n0, n1, q'⟩ := z
  obtain ⟨t, rfl⟩ := rv
  exact ⟨⟨n0, n1⟩, .int n, H', I'.tok _, ⟨_, rfl⟩, q'⟩
/-- x[y], x an instance of the class -/
def tOwnIx (C : Addr) (sp : Sp) (E : St → XK) (ta tb : TE) : TE := fun σ H Q => ta σ H fun x H1 => tb σ H1 fun y H2 => ∃ a dx fs, x = .ref a ∧ H2 a = some (.ins C dx fs) ∧ sp [.ref a, y] H2 Q (E σ)
theorem pe_ownIx {a b : Expr} {ta tb : TE} {pos : Pos} {E : St → XK} (O : HasM X.prog X.w X.K X.mg X.base CX k C "__getitem__" ps sp) (hfn : ∀ f, PySem.W.findIn X.K (.ref C) "__getitem__" = some (some (.ref f)) → PySem.W.fnIn X.K f = true) (hr : Room j X.A) (hx : ∀ σ, PassesAt CX X σ (E σ)) (ha : PE X a ta) (hb' : PE X b tb) (hjk : k + 1 ≤ j := by decide)
    (hsl : ∀ (x : Addr) (i : Value), subscripted b true (.ref x) i = runValue (.builtin "lifetime.subscript" ⟨[.ref x, i], []⟩) := by intro _ _; with_unfolding_all rfl) : PE X (.Subscript a b pos) (tOwnIx C sp E ta tb) := by
  obtain ⟨f, fd, F, hs, hf, hk, hb⟩ := O
  refine ⟨fun pins s σ H Q I h => ?_⟩
  refine Subscript_ (binT ha hb' I h fun v u s2 x y H2 I2 rx ry q => ?_)
  obtain ⟨a', dx, fs, rfl, ea, q⟩ := q
  cases rx
  obtain ⟨mA, J, _⟩ := ins_get I2.hok ea
  obtain ⟨od, J, _⟩ := J.look
  obtain ⟨m, hF⟩ := I2.fr
  refine PySem.W.sub_K hF I2.ok.mod.kin J hs (hfn f hs) hf ?_ (hsl _ _)
  exact run_atS rfl F ((hr.mono hjk).in1) hb (hx σ) I2 (vs := [.ref a', y]) (us := [.ref a', u]) (.cons rfl (.cons ry .nil)) q
end
end L2

set_option Elab.async false
set_option linter.all false
set_option maxRecDepth 100000
set_option maxHeartbeats 4000000
/-! OR: try with several clauses 'except x as n', one name n for all of them. -/
namespace L2
open PySem PySem.Spec PyProof.Rows
abbrev TSx := Addr → Value → Option Addr → TS
/-- the clauses' wish: the first that fits takes it; behind its suite the name is gone -/
def wAll (K : PySem.W.Frag) (i : Nat) (Wo : WX) (D : Ends) : List (Value × TSx) → WX
  | [] => Wo
  | (c, ts) :: r => fun cls d σ H => ∃ b, PySem.W.exmOne K cls c = some b ∧
      (b = true → ∀ a, H a = none → ts a cls d { nx := fun σ' H' => D.nx (σ'.set i none) H', rt := D.rt, bk := fun σ' H' => D.bk (σ'.set i none) H', ct := fun σ' H' => D.ct (σ'.set i none) H' } (σ.set i (some (.ref a))) H) ∧ (b = false → wAll K i Wo D r cls d σ H)
inductive AllOk (X : Cx) (n : Str) : List ExceptHandler → List (Value × TSx) → Prop
  | done : AllOk X n [] []
  | more {x : Str} {c : Value} {ts : TSx} {q : Stmt} {qs : List Stmt} {np hp : Pos} {hds : List ExceptHandler} {l : List (Value × TSx)} : Names X x c →
      (∀ (a : Addr) (oe : Obj) (cls : Value) (d : Option Addr) (pn : List (Addr × Obj)), Zc cls d oe → (∃ vs, oe.data = .fields vs) → PSs (X.suite a ((a, oe) :: pn)) (q :: qs) (ts a cls d)) → AllOk X n hds l →
      AllOk X n (.ExceptHandler (some (.Name x np)) (some n) (q :: qs) hp :: hds) ((c, ts) :: l)
section
variable {X : Cx} {n : Str} {i : Nat} {body : List Stmt} {hd : ExceptHandler} {hds : List ExceptHandler} {l : List (Value × TSx)} {pos : Pos} {tb : WX → TS} {Wo : WX}
/-- an exception that has come down to this frame meets the clauses -/
theorem all_go {pins : List (Addr × Obj)} {D : Ends} {a : Addr} {B G : Heap} {sI z : Shared} {σ : St} {H : Hp} {cls : Value} {d : Option Addr} (hs : X.stack = X.env :: X.outer) (hf : X.env.frame = some X.env.locals) (hN : X.N.Nodup) (hi : X.N[i]? = some n) (hln : X.env.kindOf n = some .local) (tk : Takes X Wo)
    (J : Inv X pins σ H sI) (nb : ∀ b o, sI.heap.get? b = some o → b ∉ frs X.stack → B.get? b = some o) (up : sI.heap.UpToSlots G) (fly : HandSPX.FlyingZ B (X.env :: X.outer) a (Zc cls d) G) (na : H a = none) (os : z.os = sI.os) (ag : AllBare z.gens) (ho : AllOk X n hds l) :
    wAll X.K i Wo D l cls d σ H → wpAny (model X.prog X.w) X.A (handleBy (.ref a) X.env hds) (SP X pins D) X.xe { z with heap := G } := by
  have ok := J.ok
  -- the exception is none of the frames
  have off : a ∉ frs (X.env :: X.outer) := fun hm => by
    obtain ⟨oe, vs, ge, _, gd⟩ := fly.there
    obtain ⟨_, o2, g2, no⟩ := fly.2.2.1.mem hm
    rw [ge] at g2
    cases g2
    exact no _ gd
  have offL : a ≠ X.env.locals := fun e => off (List.mem_filterMap.mpr ⟨X.env, List.mem_cons_self, by rw [hf, e]⟩)
  have offF : a ∉ X.fs := fun hm => by
    obtain ⟨e, me, q⟩ := List.mem_filterMap.mp hm
    exact off (List.mem_filterMap.mpr ⟨e, List.mem_cons_of_mem _ me, q⟩)
  have at_ : ∀ {G' : Heap}, sI.heap.UpToSlots G' → HandSPX.FlyingZ B (X.env :: X.outer) a (Zc cls d) G' → ∃ oe vs, G'.get? a = some oe ∧ Zc cls d oe ∧ oe.data = .fields vs ∧ Inv X pins σ H { z with heap := G' } ∧ Inv (X.suite a ((a, oe) :: (X.pn ++ pins))) [] σ H { z with heap := G' } := fun {G'} u f => by
    obtain ⟨oe, vs, ge, gz, gd⟩ := f.there
    have J' : Inv X pins σ H { z with heap := G' } := J.landed nb f.1 u os ag
    exact ⟨oe, vs, ge, gz, gd, J', J'.suite ge gd na offL offF⟩
  induction ho with
  | done =>
    intro w
    refine wpAny_handleBy_nil ?_
    obtain ⟨_, _, _, oe, vs, T, oT, ts', ge, _, gd, g1, _⟩ := id fly
    unfold PySem.passOn
    refine wpAny_bind (wpAny_field ge gd g1 ?_)
    rw [if_neg (by simp)]
    have out : wpAny (model X.prog X.w) X.A (setFlight (.ref a) X.env.frame) (fun _ y => wpAny (model X.prog X.w) X.A (throw (.ref a) : Sem Flow) (SP X pins D) X.xe y) X.xe { z with heap := G } := by
      rw [hf]
      exact HandSPX.setFlight_upZ fly fun G2 held up2 => wpAny_throw (tk _ _ ⟨a, B, sI, pins, σ, H, cls, d, rfl, J, nb, up.trans up2, .inr (.inr (by rw [hs]; exact held)), na, os, ag, w⟩)
    first
      | exact wpAny_bind (wpAny_pure (wpAny_bind out))
      | exact wpAny_bind out
  | @more x c ts st sts np hp hds2 l2 hc hsu _ ih =>
    rintro ⟨b, hb1, hyes, hno⟩
    obtain ⟨oe, vs, ge, gz, gd, J', S⟩ := at_ up fly
    refine wpAny_handleBy_cons (codeAny_handlers_test ?_) (by intro q; cases q)
    have lt : PySem.W.Looks (model X.prog X.w) G (typeOf (.ref a)) cls := fun A Q E y kp q => wpAny_typeOf_ref (kp _ _ ge) (by rw [gz.1]; exact q)
    have lm := PySem.W.exm_one (M := model X.prog X.w) J'.kIn lt hb1
    obtain ⟨hg, hdb, hm⟩ := hc
    have name : ∀ {Q : Value → Shared → Prop} {E : Value → Shared → Prop}, Q c { z with heap := G } → wpAny (model X.prog X.w) (X.A.mark (some (.ref a))) (eval (.Name x np) X.env) Q E { z with heap := G } := fun q => by
      rcases hm with hm | ⟨hm, hv, hnn⟩
      · exact ld_glob (X := X.suite a ((a, oe) :: (X.pn ++ pins))) S hg hm q hdb
      · exact ld_blt (X := X.suite a ((a, oe) :: (X.pn ++ pins))) S hg hm hv q hnn hdb
    refine name (lm.here ?_)
    cases b with
    | false => exact ih (hno rfl)
    | true =>
      refine codeAny_handlers_suite_as (HandSPX.lands_againZ fly fun G2 fly2 up2 => ?_)
      obtain ⟨oe2, vs2, ge2, gz2, gd2, J2, S2⟩ := at_ (up.trans up2) fly2
      refine store_ok (X := X.suite a ((a, oe2) :: (X.pn ++ pins))) (v := .ref a) S2 hN hi (.inl hln) rfl (fun s5 S5 => ?_) (.inr hln)
      refine wpAny_mono ((hsu a oe2 cls d (X.pn ++ pins) gz2 ⟨_, gd2⟩).run [] s5 _ H _ S5 (hyes rfl a na)) (fun f s6 hsp => ?_) (fun _ _ q => False.elim q)
      cases f with
      | next =>
        obtain ⟨_, _, S6, q⟩ := hsp
        exact gone_ok (S6.unsuite ok) hN hi hln fun _ J7 => ⟨_, _, J7, q⟩
      | brk =>
        obtain ⟨_, _, S6, q⟩ := hsp
        exact gone_ok (S6.unsuite ok) hN hi hln fun _ J7 => ⟨_, _, J7, q⟩
      | cont =>
        obtain ⟨_, _, S6, q⟩ := hsp
        exact gone_ok (S6.unsuite ok) hN hi hln fun _ J7 => ⟨_, _, J7, q⟩
      | ret u =>
        obtain ⟨_, _, _, S6, r6, q⟩ := hsp
        exact gone_ok (S6.unsuite ok) hN hi hln fun _ J7 => ⟨_, _, _, J7, r6, q⟩
theorem ps_try_all (hs : X.stack = X.env :: X.outer) (hf : X.env.frame = some X.env.locals) (hN : X.N.Nodup) (hi : X.N[i]? = some n) (hln : X.env.kindOf n = some .local) (tk : Takes X Wo)
    (hb : ∀ (W : WX) (pn : List (Addr × Obj)) (xe : Value → Shared → Prop), Takes (X.tr pn xe) W → PassesOwn (model X.prog X.w) X.A X.env xe → PSs (X.tr pn xe) body (tb W)) (ho : AllOk X n (hd :: hds) l) :
    PS X (.Try body (hd :: hds) [] [] pos) (fun D σ H => tb (wAll X.K i Wo D l) D σ H) := by
  refine ⟨fun pins s σ H D I h => wpAny_Try_except ?_⟩
  have ok := I.ok
  refine wpAny_mono ((hb (wAll X.K i Wo D l) (X.pn ++ pins) (fun e y => wpAny (model X.prog X.w) X.A (noteFrame e X.env) (fun _ y2 => wpAny (model X.prog X.w) X.A (setFlight e none) (fun _ y3 =>
    wpAny (model X.prog X.w) X.A (handleBy e X.env (hd :: hds)) (SP X pins D) X.xe y3) X.xe y2) X.xe y) (fun u y xx => ?_) PassesOwn.looking).run [] s σ H D (I.toTry _) h) (fun f y hsp => ?_) (fun _ _ q => q)
  · obtain ⟨a, B, sI, _, σ', H', cls, d, rfl, J, nb, up, sky, na, os, ag, w⟩ := xx
    have sky' : Sky B (X.env :: X.outer) a (Zc cls d) X.env.locals y.heap := by rw [← hs]; exact sky
    have hfr : X.A.frames = some (X.env :: X.outer) := by rw [ok.frames, hs]
    show wpAny (model X.prog X.w) X.A (noteFrame (.ref a) X.env) _ _ _
    exact Sky.land Zc.steady hfr hf sky' fun G fly up3 => all_go hs hf hN hi hln tk (J.ofTry ok) nb (up.trans up3) fly na os ag ho w
  · cases f with
    | next => obtain ⟨_, _, J, q⟩ := hsp; exact wpAny_execs_nil ⟨_, _, J.ofTry ok, q⟩
    | brk => obtain ⟨_, _, J, q⟩ := hsp; exact ⟨_, _, J.ofTry ok, q⟩
    | cont => obtain ⟨_, _, J, q⟩ := hsp; exact ⟨_, _, J.ofTry ok, q⟩
    | ret u => obtain ⟨_, _, _, J, r, q⟩ := hsp; exact ⟨_, _, _, J.ofTry ok, r, q⟩
/-- e.f, e the exception that the suite holds -/
def tXs (K : PySem.W.Frag) (f : Str) (a : Addr) (cls : Value) (d : Option Addr) (te : TE) : TE := fun σ H Q => te σ H fun x H1 => x = .ref a ∧ ∃ (C dd : Addr) (fs : List (Str × V)) (v : V), cls = .ref C ∧ d = some dd ∧ H1 dd = some (.xd fs) ∧ XfC K C ∧ PySem.W.findIn K (.ref C) f = some none ∧ fs.lookup f = some v ∧ Q v H1
theorem pe_xs {f : Str} {a : Addr} {oe : Obj} {cls : Value} {d : Option Addr} {pn : List (Addr × Obj)} {e : Expr} {te : TE} {pos : Pos} (hz : Zc cls d oe) (hf : ∃ vs, oe.data = .fields vs) (he : PE (X.suite a ((a, oe) :: pn)) e te)
    (hb : attributeBase e f X.env (eval e X.env) = eval e X.env := by rfl) : PE (X.suite a ((a, oe) :: pn)) (.Attribute e f pos) (tXs X.K f a cls d te) := by
  refine ⟨fun pins s σ H Q I h => attr_of hb (thn (he.run pins s σ H _ I h) fun u s1 hh => ?_)⟩
  obtain ⟨x, H1, I1, rx, rfl, C, dd, fs, v, rfl, rfl, ea, T, hno, l, q⟩ := hh
  obtain rfl : u = Value.ref a := rx
  obtain ⟨ha, _⟩ := I1.pin (a, oe) (List.mem_append_left _ List.mem_cons_self)
  obtain ⟨vs, hd⟩ := hf
  obtain ⟨mA, hns, hr⟩ := (show ObjOk X.prog X.w H1 s1.heap dd (.xd fs) from I1.hok dd _ ea)
  obtain ⟨od, hod, hl⟩ := lookIn_ns hns
  obtain ⟨u, hu, ru⟩ := RelO.some_of (v := v) (o := mA f) (by rw [← l]; exact hr f)
  have J : PySem.W.InstAt s1.heap a oe C (some od) := ⟨ha, hz.1, by unfold PySem.W.notCls; rw [hd] <;> rfl, by rw [hz.2]; exact hod⟩
  exact HandSPX.exc_get I1.kIn J T.ga T.gg T.exC (PySem.W.findObj_own T.hdC hno rfl (by rw [hl, hu])) (handed_of ru) ⟨v, H1, I1.tok _, ru, q⟩
end
end L2

set_option Elab.async false
set_option linter.all false
set_option maxRecDepth 100000
set_option maxHeartbeats 4000000
/-! OS: methods that may raise within a try; classes without arguments, by a name or a slot; classmethods. -/
namespace L2
open PySem PySem.Spec PyProof.Rows
def tMethW (C : Addr) (m : Str) (sp : Sp) (E : St → XK) (ta : TE) (t : TA) : TE := fun σ H Q => ta σ H fun x H1 => ∃ a dx fs, x = .ref a ∧ H1 a = some (.ins C dx fs) ∧ fs.lookup m = none ∧ t σ H1 fun vs H2 => sp (.ref a :: vs) H2 Q (E σ)
/-- the class of a slot, made without arguments -/
def tMakeV (i : Nat) (C : Addr) (sp : Sp) (dvs : List V) (E : St → XK) : TE := fun σ H Q => σ[i]? = some (some (.ref C)) ∧ tMakeO C sp dvs E tNil σ H Q
/-- a classmethod by its class -/
def HasCM (P : Program) (w : World) (K : PySem.W.Frag) (mg : Str → Option Value) (base : Heap) (CX : CXT) (k : Nat) (C : Addr) (m : Str) (ps : List Str) (sp : Sp) : Prop :=
  ∃ f fd mc p, FnOk P w K mg base CX k f fd ps sp ∧ ClX.CRead K C mc ∧ ClX.CMet K C mc m p f ∧ Binds K fd ps []
section
variable {X : Cx} {CX : CXT} {k j : Nat} {C : Addr} {m x : Str} {ps : List Str} {sp : Sp} {dvs : List V} {E : St → XK} {o e : Expr} {es : List Expr} {ta : TE} {t : TA} {p pos apos : Pos} {i : Nat}
theorem pe_methW {pl : Sem Bool} (he : PE X o ta) (c : Cls X.K C) (O : HasM X.prog X.w X.K X.mg X.base CX k C m ps sp) (hr : Room j X.A) (hx : ∀ σ, PassesAt CX X σ (E σ)) (ha : PA X (e :: es) t) (hjk : k ≤ j := by decide)
    (hst : starEach (e :: es) X.env = (false, eval e X.env) :: starEach es X.env := by rfl) (hpl : (backTo pos (starEach es X.env)).any (·.1) = false := by rfl)
    (ht : eval (.Call (.Attribute o m apos) (e :: es) [] pos) X.env = (do
      let ov ← eval o X.env
      standAt apos.atName
      let (f, first) ← holding [ov] (getMethod ov m pl)
      callWith pos f first (backTo pos (starEach (e :: es) X.env)) (backToKw pos (keywordEach [] X.env))) := by rfl) :
    PE X (.Call (.Attribute o m apos) (e :: es) [] pos) (tMethW C m sp E ta t) := by
  obtain ⟨f, fd, F, hs, hf, hk, hb⟩ := O
  refine ⟨fun pins s σ H Q I h => PySem.W.methodCall_KW (pl := pl) (thn (he.run pins s σ H _ I h) fun u s1 hh => ?_) ht⟩
  obtain ⟨x, H1, I1, rx, a, dx, fs, rfl, ea, l, q⟩ := hh
  obtain rfl : u = Value.ref a := rx
  refine getmeth_ok I1 ea c ⟨hs, hf, hk⟩ l (PySem.W.callWith_K (first := [.ref a]) (h₀ := X.base) I.ok.mod.kin hk (thn (ha.run pos pins s1 σ H1 _ I1 q) fun us s2 h2 => ?_) hst hpl)
  obtain ⟨vs, H2, I2, r, q2⟩ := h2
  exact ⟨I2.kIn, run_atS rfl F (hr.mono hjk) hb (hx σ) I2 (us := .ref a :: us) (vs := .ref a :: vs) (.cons rfl r) q2⟩
theorem pe_make0S (O : HasC X.prog X.w X.K X.mg X.base CX k C x ps dvs sp) (hr : Room j X.A) (hg : Gl X x) (hx : ∀ σ, PassesAt CX X σ (E σ)) (hjk : k + 1 ≤ j := by decide) (hdb : (x == ("__debug__" : Str)) = false := by decide) :
    PE X (.Call (.Name x p) [] [] pos) (tMakeO C sp dvs E tNil) := by
  obtain ⟨f, fd, ds, F, M, hm, hb, hd⟩ := O
  exact ⟨fun pins s σ H Q I h => wpAny_Call_Name_kw (ld_glob I hg hm (PySem.W.callWith_K0 I.kIn M.kp (run_makeS (us := []) M F (hr.mono hjk) hb hd (hx σ) I .nil h)) hdb)⟩
theorem pe_makeV {y : Str} (O : HasC X.prog X.w X.K X.mg X.base CX k C x ps dvs sp) (hr : Room j X.A) (hN : X.N[i]? = some y) (hv : Vis X.env.scope y) (hx : ∀ σ, PassesAt CX X σ (E σ)) (hjk : k + 1 ≤ j := by decide)
    (hdb : (y == ("__debug__" : Str)) = false := by decide) (hcd : (y == ("__classdict__" : Str)) = false := by decide) : PE X (.Call (.Name y p) [] [] pos) (tMakeV i C sp dvs E) := by
  obtain ⟨f, fd, ds, F, M, hm, hb, hd⟩ := O
  refine ⟨fun pins s σ H Q I h => wpAny_Call_Name_kw (thn ((pe_var (pos := p) hN hv hdb hcd).run pins s σ H (fun v H1 => v = .ref C ∧ H1 = H) I ⟨.ref C, h.1, rfl, rfl⟩) fun u s1 hh => ?_)⟩
  obtain ⟨v, H1, I1, rv, rfl, rfl⟩ := hh
  obtain rfl : u = Value.ref C := rv
  exact PySem.W.callWith_K0 I1.kIn M.kp (run_makeS (us := []) M F (hr.mono hjk) hb hd (hx σ) I1 .nil h.2)
theorem pe_cmO {E : XK} {pl : Sem Bool} (he : PE X o ta) (O : HasCM X.prog X.w X.K X.mg X.base CX k C m ps sp) (hr : Room j X.A) (hx : Passes CX X E) (ha : PA X (e :: es) t) (hjk : k ≤ j := by decide)
    (hst : starEach (e :: es) X.env = (false, eval e X.env) :: starEach es X.env := by rfl) (hpl : (backTo pos (starEach es X.env)).any (·.1) = false := by rfl)
    (ht : eval (.Call (.Attribute o m apos) (e :: es) [] pos) X.env = (do
      let ov ← eval o X.env
      standAt apos.atName
      let (f, first) ← holding [ov] (getMethod ov m pl)
      callWith pos f first (backTo pos (starEach (e :: es) X.env)) (backToKw pos (keywordEach [] X.env))) := by rfl) :
    PE X (.Call (.Attribute o m apos) (e :: es) [] pos) (ClX.tCMeth C sp E ta t) := by
  obtain ⟨f, fd, mc, p, F, r, cm, hb⟩ := O
  exact ClX.pe_cmeth he r cm ((F.raw hb .nil).imp fun vs H Q E h => by show sp (vs ++ []) H Q E; rw [List.append_nil]; exact h) (hr.mono hjk) hx ha hst hpl ht
end
end L2

set_option Elab.async false
set_option linter.all false
set_option maxRecDepth 100000
set_option maxHeartbeats 4000000
/-! OT: tuples whose record is known, so that their methods are found. -/
namespace L2
open PySem PySem.Spec PyProof.Rows
/-- a tuple that is known to have no dict -/
def Tf (H : Hp) (p : Addr) (ys : List V) : Prop := ∃ o : Obj, H p = some (.frz o (.tup ys)) ∧ o.dict = none
theorem Tf.same {H H' : Hp} {p : Addr} {ys : List V} (s : Same H H') (h : Tf H p ys) : Tf H' p ys := let ⟨o, e, d⟩ := h; ⟨o, s _ _ e, d⟩
theorem Tf.sqt {K : PySem.W.Frag} {H : Hp} {p : Addr} {ys : List V} (h : Tf H p ys) : SqT K H p ys := let ⟨o, e, _⟩ := h; .inl (.inr ⟨o, e⟩)
def tBMT (r : V → List V → Hp → VK → Prop) (to : TE) (t : TA) : TE := fun σ H Q => to σ H fun x H1 => (∃ p ys, x = .ref p ∧ Tf H1 p ys) ∧ t σ H1 fun xs H2 => r x xs H2 Q
section
variable {X : Cx} {o e : Expr} {es : List Expr} {to : TE} {t : TA} {name : Str} {apos cpos : Pos} {id : String} {r : V → List V → Hp → VK → Prop}
theorem call_tupleF : CallR X (.type "tuple") (fun xs H Q => ∃ p ys, xs = [.ref p] ∧ SqL X.K H p ys ∧ ∀ l o, H l = none → Obj.dict o = none → Q (.ref l) (upd H l (.frz o (.tup ys)))) := by
  intro pins s σ H xs us Q I r h
  obtain ⟨p, ys, rfl, hq, q⟩ := h
  obtain ⟨u, rfl, rx⟩ := vals1 r
  cases rx
  obtain ⟨its, rv, pl, hz⟩ := I.list hq
  refine call_tuple_list pl.isList (fun G kp => ?_) (by have := rv.length; simp only [List.size_toArray]; omega)
  have I1 : Inv X pins σ H { s with heap := G } := I.kept (t' := s.toks) kp
  refine ⟨.ref G.objs.size, _, I1.laid (t' := s.toks) (o := .frz { cls := .type "tuple", data := .seq its.toArray } (.tup ys)) (fun b o e => Heap.get?_push_of_some _ e) (Nat.le_refl _) ?_, rfl, q _ _ (I1.hok.fresh (Nat.le_refl _)) rfl⟩
  exact ⟨Heap.get?_push_size _ rfl, hz, its, rv, IsTup.new _ _⟩
theorem pe_bmT (pa : PlainAttrs "tuple") (slot : Slot "tuple" name id) (hty : typeOf (.builtin id) = pure (.type "method_descriptor")) (hm : MtR X id r) (ho : PE X o to) (ha : PA X (e :: es) t)
    (hbase : attributeBase o name X.env (eval o X.env) = eval o X.env := by rfl)
    (hfew : ((backTo cpos (starEach (e :: es) X.env)).all (fun x => !x.1) && (backToKw cpos (keywordEach [] X.env)).all (fun x => x.1.isSome)
      && decide ((e :: es).length + ([] : List Keyword).length + (if ([] : List Keyword).isEmpty then 0 else 1) < 30)) = true := by rfl)
    (hline : (apos.endLine == cpos.line) = true := by rfl) (hs : starEach (e :: es) X.env = (false, eval e X.env) :: starEach es X.env := by rfl) (hplain : (backTo cpos (starEach es X.env)).any (·.1) = false := by rfl) :
    PE X (.Call (.Attribute o name apos) (e :: es) [] cpos) (tBMT r to t) := by
  refine ⟨fun pins s σ H Q I h => wpAny_Call_method_late hbase hfew hline rfl (thn (ho.run pins s σ H _ I h) fun v s1 hh => ?_)⟩
  obtain ⟨x, H1, I1, r1, ⟨p, ys, rfl, ob, hp, hd⟩, q1⟩ := hh
  obtain rfl : v = Value.ref p := r1
  obtain ⟨g1, _, its, _, o2, g2, hc, _⟩ := (show ObjOk X.prog X.w H1 s1.heap p (.frz ob (.tup ys)) from I1.hok p _ hp)
  rw [g1] at g2
  cases g2
  refine ⟨"tuple", id, pa, slot, hty, ⟨ob, g1, hc⟩, fun a ea => by cases ea; exact ⟨ob, g1, hd⟩, ?_⟩
  have hA := ha.run cpos pins s1 σ H1 _ I1 q1
  rw [hs] at hA ⊢
  exact Calls.callWith_builtin ((show (false || (backTo cpos (starEach es X.env)).any (·.1)) = (backTo cpos (starEach es X.env)).any (·.1) from Bool.false_or _).trans hplain) (Calls.evalArgs_plain (thn hA fun us s2 ⟨vs, H2, I2, r2, q2⟩ => hm pins s2 σ H2 (.ref p) vs (.ref p) us Q I2 rfl r2 q2))
end
end L2

set_option Elab.async false
set_option linter.all false
set_option maxRecDepth 100000
set_option maxHeartbeats 4000000
/-! OU: range(n) as a value, list(range). -/
namespace L2
open PySem PySem.Spec PyProof.Rows
theorem pairedGet {α β : Type} {F : α → β → Prop} : ∀ {l₁ : List α} {l₂ : List β}, l₂.length = l₁.length → (∀ (j : Nat) x u, l₁[j]? = some x → l₂[j]? = some u → F x u) → Paired F l₁ l₂
  | [], [], _, _ => .nil
  | [], _ :: _, h, _ => by simp at h
  | _ :: _, [], h, _ => by simp at h
  | a :: l₁, b :: l₂, h, k => .cons (k 0 a b rfl rfl) (pairedGet (by simpa using h) fun j x u hx hu => k (j + 1) x u (by simpa using hx) (by simpa using hu))
section
variable {X : Cx}
theorem cr_range1 : CallR X (.type "range") (fun vs H Q => ∃ j, vs = [V.int j] ∧ ∀ p, H p = none → Q (.ref p) (upd H p (.rng 0 j))) := by
  intro pins s σ H vs us Q I r h
  obtain ⟨j, rfl, q⟩ := h
  obtain ⟨u1, rfl, rj⟩ := vals1 r
  obtain ⟨u, rfl⟩ := rj
  refine call_range_1 ⟨.ref s.heap.objs.size, upd H s.heap.objs.size (.rng 0 j), I.laid (t' := s.toks + 1 + 1) (fun b o e => Heap.get?_push_of_some _ e) (Nat.le_refl _) ?_, rfl, q _ (I.hok.fresh (Nat.le_refl _))⟩
  exact ⟨s.toks, u, s.toks + 1, Heap.get?_push_size _ rfl⟩
def intL (n : Nat) : List V := (List.range n).map fun (j : Nat) => V.int (j : Int)
theorem call_list_rng (hc : X.calm = true) : CallR X (.type "list") (fun xs H Q => ∃ p n, xs = [.ref p] ∧ H p = some (.rng 0 (n : Nat)) ∧ n ≤ 10000 ∧ ∀ l, H l = none → Q (.ref l) (upd H l (.lst (intL n)))) := by
  intro pins s σ H xs us Q I r h
  obtain ⟨p, n, rfl, hp, hn, q⟩ := h
  obtain ⟨u, rfl, rx⟩ := vals1 r
  cases rx
  obtain ⟨t1, t2, t3, ho⟩ := I.hok p _ hp
  have e1 : (10000 : Nat) ≤ sizeLine := by decide
  refine call_list_range (n := n) (I.ok.hd hc) ho (small_one (by omega) (by omega) (by omega) (by omega)) (by rw [rangeSize_one]; split <;> omega) (by omega) fun h' tk acc' c' kp e it => ?_
  have v : Vals (intL n) acc'.toList := by
    refine pairedGet ?_ ?_
    · rw [Array.length_toList, it.1]; simp [intL]
    · intro j x u hx hu
      have hx' : (List.range n)[j]?.map (fun (j : Nat) => V.int (j : Int)) = some x := by simpa [intL] using hx
      cases ej : (List.range n)[j]? with
      | none => rw [ej] at hx'; cases hx'
      | some z =>
        rw [ej] at hx'
        have hz : z = j := by
          have := List.getElem?_eq_some_iff.mp ej
          obtain ⟨h1, h2⟩ := this
          rw [List.getElem_range] at h2
          exact h2.symm
        subst hz
        cases hx'
        obtain ⟨t, rfl⟩ := it.2 z u (by simpa using hu)
        exact ⟨t, by simp⟩
  exact ⟨.ref s.heap.objs.size, _, I.laid (t' := tk) kp (Nat.le_refl _) (show ObjOk X.prog X.w _ h' _ (.lst (intL n)) from ⟨by simp [intL]; omega, acc'.toList, c', v, by simpa using e⟩), rfl, q _ (I.hok.fresh (Nat.le_refl _))⟩
end
end L2

set_option Elab.async false
set_option linter.all false
set_option maxRecDepth 100000
set_option maxHeartbeats 4000000
namespace Law
open PySem L2
def top (i : Nat) : Stmt := PySem.Challenge.pw_hadnot_k04_choices.main.body.getD i (.Pass ⟨0, 0, 0, 0⟩)
/-! ### the source of draws -/
abbrev s_feed : Stmt := top 16
abbrev s_take : Stmt := top 17
abbrev s_same : Stmt := top 20
theorem sc_feed : FnScope ["_law_script", "_law_k", "_law_cell", "_law_own"] ["_law_script", "_law_k"] (defScope s_feed) := ⟨rfl, rfl, rfl, by decide +kernel, rfl, by decide +kernel, by decide +kernel⟩
theorem sc_take : FnScope ["_law_feed_here", "_law_many", "_law_digit", "_law_one"] ["_law_feed_here", "_law_many"] (defScope s_take) := ⟨rfl, rfl, rfl, by decide +kernel, rfl, by decide +kernel, by decide +kernel⟩
theorem sc_same : FnScope ["_law_one", "_law_other"] ["_law_one", "_law_other"] (defScope s_same) := ⟨rfl, rfl, rfl, by decide +kernel, rfl, by decide +kernel, by decide +kernel⟩
structure Blt (mg : Str → Option Value) : Prop where
  n_len : mg "len" = none
  n_abs : mg "abs" = none
  n_repr : mg "repr" = none
def spFeed (K : PySem.W.Frag) : Sp := fun vs H Q _ => ∃ (a : Addr) (ns : List Int) (k : Int), vs = [.ref a, .int k] ∧ SqL K H a (ns.map V.int) ∧ ns.length ≤ 63 ∧ 0 ≤ k ∧ k < 1000 ∧
  ∀ p own st, H p = none → 0 ≤ own → 0 < st → st < 4294967296 → Q (.ref p) (upd H p (.lst [.int own, .int st]))
def spTake : Sp := fun vs H Q _ => ∃ (p : Addr) (own st many : Int), vs = [.ref p, .int many] ∧ H p = some (.lst [.int own, .int st]) ∧ 0 ≤ own ∧ 0 < st ∧ st < 4294967296 ∧ 0 < many ∧ many < 18446744073709551616 ∧
  ∀ d own' st', 0 ≤ d → d < many → 0 ≤ own' → 0 < st' → st' < 4294967296 → Q (.int d) (upd H p (.lst [.int own', .int st']))
/-- two data: whether their texts are equal -/
def spSame (K : PySem.W.Frag) : Sp := fun vs H Q _ => ∃ (x y : V) (d e : PyData), vs = [x, y] ∧ (Dp K H x d ∧ d.showable = true ∧ d.hasDict = false ∧ d.depth ≤ 60 ∧ d.shown.length ≤ sizeLine) ∧ (Dp K H y e ∧ e.showable = true ∧ e.hasDict = false ∧ e.depth ≤ 60 ∧ e.shown.length ≤ sizeLine) ∧
  Q (.bl (decide (V.str d.shown = V.str e.shown))) H
section
variable {P : Program} {w : World} {K : PySem.W.Frag} {mg : Str → Option Value} {base : Heap}
theorem mod_lt' (a : Int) {b c : Int} (h : 0 < b) (hc : b ≤ c) : 0 ≤ a % b ∧ a % b < c := ⟨Int.emod_nonneg _ (by omega), Int.lt_of_lt_of_le (Int.emod_lt_of_pos _ h) hc⟩
theorem cmul_l {i j : Int} (h1 : -(2 ^ 64) < i) (h2 : i < 2 ^ 64) : CMul i j := .inl ⟨h1, h2⟩
theorem cmul_r {i j : Int} (h1 : -(2 ^ 64) < j) (h2 : j < 2 ^ 64) : CMul i j := .inr ⟨h1, h2⟩
theorem cdivW {i j : Int} (h : 0 < j) (h2 : j < 18446744073709551616) : CDivW i j := wide_div (b := 64) h (by omega) (by decide) (by decide)
theorem ok_take (D : Def K mg "_law_take" s_take) : HasFn P w K mg base CX0 1 "_law_take" ["_law_feed_here", "_law_many"] spTake := by
  obtain ⟨f, fd, F, hm⟩ := D
  refine ⟨f, fd, F.ok sc_take (fun vs H Q E h => ?_) (fun cdv A outer s H vs Q E hr h => ?_), hm, F.kp, F.binds fun _ _ _ _ _ _ us hl => match us, hl with | [_, _], _ => rfl⟩
  · obtain ⟨p, own, st, many, rfl, _⟩ := h
    rfl
  obtain ⟨p, own, st, many, rfl, hp, h1, h2, h3, h4, h5, k⟩ := h
  refine ⟨_, (pss_cons (ps_if (pt_cmpR op_gt (pe_ix ix_list (pv 0) pe_int (fun _ _ => rfl)) pe_int (nomark _))
  (pss_cons (ps_set (i := 2) sc_take.nd rfl (Or.inl rfl) (pe_op op_mod (pe_ix ix_list (pv 0) pe_int (fun _ _ => rfl)) (pv 1)))
    (pss_cons (ps_asg (pe_op op_fdivW (pe_ix ix_list (pv 0) pe_int (fun _ _ => rfl)) (pv 1)) (pg_sub (pv 0) pe_int set_list))
    (pss_one (ps_ret (pv 2)))))
  pss_nil)
  (pss_cons (ps_set (i := 3) sc_take.nd rfl (Or.inl rfl) (pe_op op_mod (pe_op op_mul (pe_ix ix_list (pv 0) pe_int (fun _ _ => rfl)) pe_int) pe_int))
  (pss_cons (ps_asg (pe_op op_add (pe_op op_mod (pe_op op_add (pe_op op_mul (pv 3) pe_int) pe_int) pe_int) pe_int) (pg_sub (pv 0) pe_int set_list))
  (pss_one (ps_ret (pe_op op_mod (pe_op op_fdivW (pe_op op_add (pe_op op_mul (pv 3) pe_int) (pe_ix ix_list (pv 0) pe_int (fun _ _ => rfl))) pe_int) (pv 1))))))), ?_⟩
  refine ⟨_, rfl, p, _, 0, _, rfl, rfl, SqL.of hp, rfl, _, _, rfl, rfl, _, rfl, ite2 (fun c => ?_) (fun c => ?_)⟩
  · refine ⟨_, rfl, p, _, 0, _, rfl, rfl, SqL.of hp, rfl, _, rfl, _, _, rfl, rfl, h4, ?_⟩
    refine ⟨_, rfl, p, _, 0, _, rfl, rfl, SqL.of hp, rfl, _, rfl, _, _, rfl, rfl, cdivW h4 h5, _, rfl, p, _, 0, 0, rfl, rfl, hp, rfl, ?_⟩
    refine ⟨_, rfl, k _ _ _ (mod_lt' own h4 (Int.le_refl _)).1 (mod_lt' own h4 (Int.le_refl _)).2 (Int.ediv_nonneg h1 (by omega)) h2 h3⟩
  · refine ⟨_, rfl, p, _, 1, _, rfl, rfl, SqL.of hp, rfl, _, _, rfl, rfl, cmul_r (by decide) (by decide), _, _, rfl, rfl, (by decide : (0 : Int) < 2147483647), ?_⟩
    have b1 := mod_lt' (st * 48271) (b := 2147483647) (c := 2147483647) (by decide) (by decide)
    refine ⟨_, rfl, _, _, rfl, rfl, cmul_r (by decide) (by decide), _, _, rfl, rfl, _, _, rfl, rfl, (by decide : (0 : Int) < 2147483399), _, _, rfl, rfl, _, rfl, p, _, 1, 1, rfl, rfl, hp, rfl, ?_⟩
    have b2 := mod_lt' (st * 48271 % 2147483647 * 40692 + 12345) (b := 2147483399) (c := 2147483399) (by decide) (by decide)
    refine ⟨_, rfl, _, _, rfl, rfl, cmul_r (by decide) (by decide), _, rfl, p, _, 1, _, rfl, rfl, SqL.of upd_same, rfl, _, _, rfl, rfl, _, _, rfl, rfl, cdivW (by decide) (by decide), _, rfl, _, _, rfl, rfl, h4, ?_⟩
    exact k _ _ _ (mod_lt' _ h4 (Int.le_refl _)).1 (mod_lt' _ h4 (Int.le_refl _)).2 h1 (by omega) (by omega)
theorem ok_feed (D : Def K mg "_law_feed" s_feed) (T : Blt mg) : HasFn P w K mg base CX0 1 "_law_feed" ["_law_script", "_law_k"] (spFeed K) := by
  obtain ⟨f, fd, F, hm⟩ := D
  refine ⟨f, fd, F.ok sc_feed (fun vs H Q E h => ?_) (fun cdv A outer s H vs Q E hr h => ?_), hm, F.kp, F.binds fun _ _ _ _ _ _ us hl => match us, hl with | [_, _], _ => rfl⟩
  · obtain ⟨a, ns, j, rfl, _⟩ := h
    rfl
  obtain ⟨a, ns, j, rfl, hS, hl, h1, h2, k⟩ := h
  refine ⟨_, (pss_cons (ps_set (i := 2) sc_feed.nd rfl (Or.inl rfl) (pe_op op_add (pe_op op_mul pe_int (pv 1)) pe_int))
  (pss_cons (ps_if (pt_cmpR op_lt (pv 1) (pe_callB call_len_seq (by rfl) T.n_len (by decide +kernel) (pa_cons (pv 0) pa_nil)) (nomark _))
  (pss_one (ps_set (i := 2) sc_feed.nd rfl (Or.inl rfl) (pe_callB call_abs (by rfl) T.n_abs (by decide +kernel) (pa_cons (pe_ix ix_list (pv 0) (pv 1) (fun _ _ => rfl)) pa_nil))))
  (pss_one (ps_if (pt_cmpR op_gt (pe_callB call_len_seq (by rfl) T.n_len (by decide +kernel) (pa_cons (pv 0) pa_nil)) pe_int (nomark _))
    (pss_one (ps_set (i := 2) sc_feed.nd rfl (Or.inl rfl) (pe_op op_add (pe_op op_mul (pe_op op_mod (pe_callB call_abs (by rfl) T.n_abs (by decide +kernel) (pa_cons (pe_ix ix_list (pv 0) (pe_op op_mod (pv 1) (pe_callB call_len_seq (by rfl) T.n_len (by decide +kernel) (pa_cons (pv 0) pa_nil))) (fun _ _ => rfl)) pa_nil)) pe_int) pe_int) (pe_op op_mul pe_int (pv 1)))))
    pss_nil)))
  (pss_cons (ps_set (i := 3) sc_feed.nd rfl (Or.inl rfl) pe_int)
  (pss_cons (ps_if (pt_cmpR op_ge (pv 2) (pe_op op_pow pe_int pe_int) (nomark _))
  (pss_one (ps_set (i := 3) sc_feed.nd rfl (Or.inl rfl) (pv 2)))
  pss_nil)
  (pss_one (ps_ret (pe_lst (pa_cons (pv 3) (pa_cons (pe_op op_add (pe_op op_mod (pe_op op_add (pe_op op_mul (pe_op op_mod (pv 2) pe_int) pe_int) (pe_op op_mul pe_int (pv 1))) pe_int) pe_int) pa_nil))))))))), ?_⟩
  have fin : ∀ c : Int, 0 ≤ c → ∀ t : Option V, (tSeq (tAsg (tC (.int 0)) (gName 3)) (tSeq (tIfS (tTest (tOp (rI0 fun i j => .bl (decide (j ≤ i))) (tVar 2) (tOp (rI CPow fun i j => .int (i ^ j.toNat)) (tC (.int 10)) (tC (.int 18))))) (tAsg (tVar 2) (gName 3)) tNext)
      (tRet (tLst (tCons (tVar 3) (tCons (tOp (rI0 fun i j => .int (i + j)) (tOp (rI (fun _ j => 0 < j) fun i j => .int (i % j)) (tOp (rI0 fun i j => .int (i + j)) (tOp (rI CMul fun i j => .int (i * j)) (tOp (rI (fun _ j => 0 < j) fun i j => .int (i % j)) (tVar 2) (tC (.int 2147483629))) (tC (.int 48271))) (tOp (rI CMul fun i j => .int (i * j)) (tC (.int 50021)) (tVar 1))) (tC (.int 2147483629))) (tC (.int 1))) tNil))))))
      { nx := fun _ H' => Q .non H', rt := Q } [some (.ref a), some (.int j), some (.int c), t] H := by
    intro c hc t
    have bc := mod_lt' (c % 2147483629 * 48271 + 50021 * j) (b := 2147483629) (c := 2147483629) (by decide) (by decide)
    refine ⟨_, rfl, _, _, rfl, rfl, ⟨by decide, by decide, by decide⟩, _, _, rfl, rfl, _, rfl, ite2 (fun e => ?_) (fun e => ?_)⟩
    · refine ⟨_, rfl, _, rfl, _, rfl, _, _, rfl, rfl, (by decide : (0 : Int) < 2147483629), _, _, rfl, rfl, cmul_r (by decide) (by decide), _, rfl, _, _, rfl, rfl, cmul_l (by decide) (by decide), _, _, rfl, rfl, _, _, rfl, rfl, (by decide : (0 : Int) < 2147483629), _, _, rfl, rfl, by show 2 ≤ sizeLine; decide, fun p hp => ?_⟩
      exact k p c _ hp hc (by omega) (by omega)
    · refine ⟨_, rfl, _, rfl, _, _, rfl, rfl, (by decide : (0 : Int) < 2147483629), _, _, rfl, rfl, cmul_r (by decide) (by decide), _, rfl, _, _, rfl, rfl, cmul_l (by decide) (by decide), _, _, rfl, rfl, _, _, rfl, rfl, (by decide : (0 : Int) < 2147483629), _, _, rfl, rfl, by show 2 ≤ sizeLine; decide, fun p hp => ?_⟩
      exact k p 0 _ hp (by decide) (by omega) (by omega)
  have ab : ∀ z : Int, 0 ≤ (if z < 0 then -z else z) := fun z => by split <;> omega
  refine ⟨_, rfl, _, _, rfl, rfl, cmul_l (by decide) (by decide), _, _, rfl, rfl, ?_⟩
  refine ⟨_, rfl, _, rfl, a, _, rfl, .inl hS, _, _, rfl, rfl, _, rfl, ite2 (fun c => ?_) (fun c => ?_)⟩
  · have c' : j < ((ns.map V.int).length : Int) := of_decide_eq_true c
    rw [List.length_map] at c'
    obtain ⟨z, hz⟩ : ∃ z, ns[j.toNat]? = some z := ⟨_, List.getElem?_eq_getElem (by omega)⟩
    refine ⟨_, rfl, _, rfl, a, _, _, .int z, rfl, rfl, hS, ?_, _, rfl, fin _ (ab z) _⟩
    have e : j = ((j.toNat : Nat) : Int) := by omega
    rw [e]
    exact atI_nat (by rw [List.getElem?_map, hz]; rfl)
  · refine ⟨_, rfl, a, _, rfl, .inl hS, _, _, rfl, rfl, _, rfl, ite2 (fun c2 => ?_) (fun c2 => ?_)⟩
    · have c' : (0 : Int) < ((ns.map V.int).length : Int) := of_decide_eq_true c2
      have m1 := mod_lt' j c' (Int.le_refl _)
      obtain ⟨z, hz⟩ : ∃ z, ns[(j % ((ns.map V.int).length : Int)).toNat]? = some z := ⟨_, List.getElem?_eq_getElem (by rw [List.length_map] at m1 ⊢; omega)⟩
      refine ⟨_, rfl, _, rfl, _, rfl, a, _, rfl, .inl hS, _, _, rfl, rfl, c', a, _, _, .int z, rfl, rfl, hS, ?_, _, rfl, _, _, rfl, rfl, (by decide : (0 : Int) < 2147483629), _, _, rfl, rfl, cmul_r (by decide) (by decide), _, rfl, _, _, rfl, rfl, cmul_l (by decide) (by decide), _, _, rfl, rfl, fin _ ?_ _⟩
      · have e : j % ((ns.map V.int).length : Int) = (((j % ((ns.map V.int).length : Int)).toNat : Nat) : Int) := by omega
        rw [e]
        exact atI_nat (by rw [List.getElem?_map, hz]; rfl)
      · have := mod_lt' (if z < 0 then -z else z) (b := 2147483629) (c := 2147483629) (by decide) (by decide)
        omega
    · exact fin _ (by omega) _
theorem ok_same (D : Def K mg "_law_same" s_same) (T : Blt mg) : HasG P w K mg base CX0 1 "_law_same" ["_law_one", "_law_other"] (spSame K) := by
  obtain ⟨f, fd, F, hm⟩ := D
  refine ⟨f, fd, F.okG sc_same (fun vs H Q E h => ?_) (fun cdv A outer s H vs Q E hgs hr h => ?_), hm, F.kp, F.binds fun _ _ _ _ _ _ us hl => match us, hl with | [_, _], _ => rfl⟩
  · obtain ⟨x, y, d, e, rfl, _⟩ := h
    rfl
  obtain ⟨x, y, d, e, rfl, ⟨x1, x2, x3, x4, x5⟩, ⟨y1, y2, y3, y4, y5⟩, k⟩ := h
  refine ⟨_, (pss_one (ps_ret (pe_cmpR op_eq (pe_callB (call_reprD hgs hr.units) (by rfl) T.n_repr (by decide +kernel) (pa_cons (pv 0) pa_nil)) (pe_callB (call_reprD hgs hr.units) (by rfl) T.n_repr (by decide +kernel) (pa_cons (pv 1) pa_nil)) (nomark _)))), ?_⟩
  exact ⟨_, rfl, x, d, rfl, x1, x2, x3, x4, x5, _, rfl, y, e, rfl, y1, y2, y3, y4, y5, rfl, k⟩
end
end Law

set_option Elab.async false
set_option linter.all false
set_option maxRecDepth 100000
set_option maxHeartbeats 4000000
set_option pp.maxSteps 150
set_option pp.deepTerms.threshold 6
namespace Law
open PySem L2
abbrev s_mixed : Stmt := top 18
theorem sc_mixed : FnScope ["_law_feed_here", "_law_some", "_law_left", "_law_found", "_law_k"] ["_law_feed_here", "_law_some"] (defScope s_mixed) := ⟨rfl, rfl, rfl, by decide +kernel, rfl, by decide +kernel, by decide +kernel⟩
abbrev s_titles : Stmt := top 19
theorem sc_titles : FnScope ["_law_feed_here", "_law_many", "_law_signs", "_law_start", "_law_form", "_law_k"] ["_law_feed_here", "_law_many"] (defScope s_titles) := ⟨rfl, rfl, rfl, by decide +kernel, rfl, by decide +kernel, by decide +kernel⟩
theorem era {α : Type} : ∀ (xs : List α) (j : Nat) (h : j < xs.length), (xs[j] :: xs.eraseIdx j).Perm xs
  | x :: xs, 0, _ => List.Perm.refl _
  | x :: xs, j + 1, h => (List.Perm.swap x _ _).trans ((era xs j (Nat.lt_of_succ_lt_succ h)).cons x)
/-- a draw: all but the feed stays -/
def spTk : Sp := fun vs H Q _ => ∃ (p : Addr) (many : Int), vs = [.ref p, .int many] ∧ Fed p H ∧ 0 < many ∧ many < 18446744073709551616 ∧ ∀ d H', Mv p H H' → 0 ≤ d → d < many → Q (.int d) H'
section
variable {P : Program} {w : World} {K : PySem.W.Frag} {mg : Str → Option Value} {base : Heap}
theorem ok_tk (O : HasFn P w K mg base CX0 1 "_law_take" ["_law_feed_here", "_law_many"] spTake) : HasFn P w K mg base CX0 1 "_law_take" ["_law_feed_here", "_law_many"] spTk := by
  refine O.weak fun vs H Q E h => ?_
  obtain ⟨p, many, rfl, ⟨own, st, hp, a, b, c⟩, m0, m1, k⟩ := h
  refine ⟨p, own, st, many, rfl, hp, a, b, c, m0, m1, fun d own' st' d0 d1 o0 t0 t1 => k d _ ⟨⟨own', st', upd_same, o0, t0, t1⟩, fun b o n e => ?_⟩ d0 d1⟩
  rw [upd_ne n]
  exact e
structure Ta (P : Program) (w : World) (K : PySem.W.Frag) (mg : Str → Option Value) (base : Heap) : Prop where
  law_take : HasFn P w K mg base CX0 1 "_law_take" ["_law_feed_here", "_law_many"] spTk
  n_list : mg "list" = none
  n_len : mg "len" = none
  n_range : mg "range" = none
  n_str : mg "str" = none
  n_int : mg "int" = none
/-- the same items in some order, as a new list -/
def spMixed (K : PySem.W.Frag) : Sp := fun vs H Q _ => ∃ (p b : Addr) (xs : List V), vs = [.ref p, .ref b] ∧ Fed p H ∧ SqL K H b xs ∧ xs.length ≤ 1000 ∧ ∀ l ys H', Mv p H H' → H l = none → H' l = some (.lst ys) → ys.Perm xs → Q (.ref l) H'
theorem ok_mixed (D : Def K mg "_law_mixed" s_mixed) (T : Ta P w K mg base) : HasFn P w K mg base CX0 2 "_law_mixed" ["_law_feed_here", "_law_some"] (spMixed K) := by
  have O := T
  obtain ⟨f, fd, F, hm⟩ := D
  refine ⟨f, fd, F.ok sc_mixed (fun vs H Q E h => ?_) (fun cdv A outer s H vs Q E hr h => ?_), hm, F.kp, F.binds fun _ _ _ _ _ _ us hl => match us, hl with | [_, _], _ => rfl⟩
  · obtain ⟨p, b, xs, rfl, _⟩ := h
    rfl
  obtain ⟨p, b, xs, rfl, fd0, hb, hx, k⟩ := h
  refine ⟨_, (pss_cons (ps_par (i := 2) (j := 3) (by rfl) sc_mixed.nd rfl rfl (by decide) rfl rfl (pa_cons (pe_callTy call_list_of (by rfl) T.n_list (by decide +kernel) (pa_cons (pv 1) pa_nil)) (pa_cons (pe_lst pa_nil) pa_nil)) (by rfl))
  (pss_cons (ps_for PassesOwn.never rfl (pi_range1 (by rfl) T.n_range (pa_cons (pe_callB call_len_seq (by rfl) T.n_len (by decide +kernel) (pa_cons (pv 2) pa_nil)) pa_nil)) (pg_name (i := 4) sc_mixed.nd rfl (Or.inl rfl))
  (pss_one (ps_expr (pe_bm PySem.F.plainAttrs_list PySem.F.slot_list_append PySem.F.type_list_append mt_append (pv 3) (pa_cons (pe_bm PySem.F.plainAttrs_list PySem.F.slot_list_pop PySem.F.type_list_pop mt_popAt (pv 2) (pa_cons (pe_callO O.law_take hr (by rfl) pass0 (pa_cons (pv 0) (pa_cons (pe_callB call_len_seq (by rfl) T.n_len (by decide +kernel) (pa_cons (pv 2) pa_nil)) pa_nil))) pa_nil)) pa_nil)))))
  (pss_one (ps_ret (pv 3))))), ?_⟩
  have l1 : (2000 : Nat) ≤ sizeLine := by decide
  refine ⟨_, rfl, b, xs, rfl, .inl hb, fun l nl => ⟨by show 0 ≤ sizeLine; decide, fun m nm => ⟨_, _, rfl, ?_⟩⟩⟩
  have lm : l ≠ m := fun z => by subst z; rw [upd_same] at nm; cases nm
  have nm0 : H m = none := by rw [upd_ne (Ne.symm lm)] at nm; exact nm
  refine ⟨_, rfl, l, xs, rfl, .inl (SqL.of (by rw [upd_ne lm, upd_same])), _, rfl, by omega, by omega, for_range (lo := 0) (fun i σ H1 => ∃ v4 : Option V, ∃ ls fs, σ = [some (.ref p), some (.ref b), some (.ref l), some (.ref m), v4] ∧ Mv p H H1 ∧ H1 l = some (.lst ls) ∧ H1 m = some (.lst fs) ∧ (fs ++ ls).Perm xs ∧ fs.length = i)
    ⟨_, xs, [], rfl, Mv.of fd0 ((sNew nl).trans (sNew nm)), by rw [upd_ne lm, upd_same], upd_same, List.Perm.refl _, rfl⟩ ?_ ?_⟩
  · rintro i σ H1 hi ⟨v4, ls, fs, rfl, mv, h1, h2, pm, hf⟩
    have hl : (fs ++ ls).length = xs.length := pm.length_eq
    rw [List.length_append] at hl
    have hlen : 0 < ls.length := by
      simp only [Int.toNat_natCast] at hi
      omega
    refine ⟨_, rfl, .inl ⟨rfl, _, SqL.of h2⟩, _, rfl, .inl ⟨rfl, _, SqL.of h1⟩, _, rfl, _, rfl, l, ls, rfl, .inl (SqL.of h1), p, _, rfl, mv.fed, by omega, by omega, fun d H2 m2 d0 d1 => ?_⟩
    have h1' := m2.at (fd0.ne nl) h1
    have h2' := m2.at (fd0.ne nm0) h2
    obtain ⟨j, rfl⟩ : ∃ j : Nat, d = (j : Int) := ⟨d.toNat, by omega⟩
    have hj : j < ls.length := by omega
    refine ⟨l, ls, _, j, ls[j], rfl, rfl, h1', by omega, by omega, ?_, by simp [hj], ?_⟩
    · exact (seqIndex_of (by omega) (by omega)).trans (by rw [Int.toNat_natCast])
    refine ⟨m, fs, _, rfl, rfl, by rw [upd_ne (Ne.symm lm)]; exact h2', by omega, ?_⟩
    refine ⟨_, ls.eraseIdx j, fs ++ [ls[j]], rfl, ((mv.trans m2).upd fd0 nl).upd fd0 nm0, by rw [upd_ne lm, upd_same], upd_same, ?_, by rw [List.length_append, hf]; rfl⟩
    refine List.Perm.trans ?_ pm
    rw [List.append_assoc]
    exact (List.perm_append_left_iff fs).mpr (era ls j hj)
  · rintro σ H1 ⟨v4, ls, fs, rfl, mv, h1, h2, pm, hf⟩
    refine ⟨_, rfl, ?_⟩
    have e : ls = [] := by
      have hl := pm.length_eq
      rw [List.length_append] at hl
      simp only [Int.toNat_natCast] at hf
      exact List.eq_nil_of_length_eq_zero (by omega)
    subst e
    rw [List.append_nil] at pm
    exact k m fs H1 mv nm0 h2 pm
/-- n names, no two alike, as a new list -/
def spTitles : Sp := fun vs H Q _ => ∃ (p : Addr) (n : Nat), vs = [.ref p, .int n] ∧ Fed p H ∧ 1 ≤ n ∧ n ≤ 36 ∧ ∀ l ys H', Mv p H H' → H l = none → H' l = some (.lst (ys.map V.str)) → Tls n ys → Q (.ref l) H'
structure Tb (P : Program) (w : World) (K : PySem.W.Frag) (mg : Str → Option Value) (base : Heap) : Prop extends Ta P w K mg base where
  law_mixed : HasFn P w K mg base CX0 2 "_law_mixed" ["_law_feed_here", "_law_some"] (spMixed K)
theorem seq_if {tc : TT} {t r : TS} {D : Ends} {σ : St} {H1 : Hp} (Z : Hp → Prop) (hZ : ∀ H', Z H' → r D σ H') (h : (∀ H', Z H' → r D σ H') → tc σ H1 fun b H' => if b = true then t { D with nx := r D } σ H' else r D σ H') : tSeq (tIfS tc t tNext) r D σ H1 := h hZ
theorem small {z : Int} (h0 : 0 ≤ z) (h1 : z < 1000000) : z.natAbs.log2 < 1920 := Nat.lt_of_lt_of_le (PySem.Flt.log2_lt_of (k := 20) (by decide) (by omega)) (by decide)
theorem numLen {z : Int} (h0 : 0 ≤ z) (h1 : z < 1000000) : ((toString z : String) : Str).length ≤ 30 := by
  have := PySem.int_text_length_le (a := z) (k := 20) (by decide) (PySem.Flt.log2_lt_of (k := 20) (by decide) (by omega))
  show (Str.ofString (toString z)).length ≤ 30
  rw [PySem.ofString_length]
  omega
theorem mulSmall {c : Nat} {n : Int} (h0 : 0 ≤ n) (h1 : n ≤ 100) : MulOk (⟨#[c]⟩ : Str) n := by
  refine ⟨?_, fun a b => ?_, fun a b => ?_⟩
  · rw [Bool.or_eq_false_iff]
    exact ⟨decide_eq_false (by omega), decide_eq_false (by omega)⟩
  · have : 1 ≤ (2 ^ 63 - 1) / n := (Int.le_ediv_iff_mul_le (by omega)).mpr (by omega)
    show ¬ ((1 : Nat) : Int) > _
    omega
  · show decide (1 * n.toNat > sizeLine) = false
    have e : (2000 : Nat) ≤ sizeLine := by decide
    exact decide_eq_false (by omega)
theorem perm_str {ys : List V} {xs : List Str} (h : ys.Perm (xs.map V.str)) : ∃ zs : List Str, ys = zs.map V.str ∧ zs.Perm xs := by
  have hm : ∀ y ∈ ys, ∃ z : Str, y = V.str z := fun y hy => by
    obtain ⟨z, _, e⟩ := List.mem_map.mp (h.mem_iff.mp hy)
    exact ⟨z, e.symm⟩
  let u : V → Str := fun v => match v with | .str z => z | _ => Str.empty
  have e : ys = (ys.map u).map V.str := by
    rw [List.map_map]
    refine (List.map_id' _).symm.trans (List.map_congr_left fun y hy => ?_)
    obtain ⟨z, rfl⟩ := hm y hy
    rfl
  refine ⟨ys.map u, e, ?_⟩
  have := h.map u
  rw [List.map_map] at this
  have i : xs.map (u ∘ V.str) = xs := (List.map_congr_left fun x _ => rfl).trans (List.map_id _)
  rw [i] at this
  exact this
theorem tl_succ (t : Int → Int → Str) (s : Int) (j : Nat) : tl t s (j + 1) = tl t s j ++ [t s (0 + (j : Nat))] := by
  unfold tl
  rw [List.range_succ, List.map_append]
  rfl
theorem tl_len (t : Int → Int → Str) (s : Int) (j : Nat) : (tl t s j).length = j := by
  unfold tl
  rw [List.length_map, List.length_range]
theorem ok_titles (D : Def K mg "_law_titles" s_titles) (T : Tb P w K mg base) : HasFn P w K mg base CX0 3 "_law_titles" ["_law_feed_here", "_law_many"] spTitles := by
  have O := T
  obtain ⟨f, fd, F, hm⟩ := D
  refine ⟨f, fd, F.ok sc_titles (fun vs H Q E h => ?_) (fun cdv A outer s H vs Q E hr h => ?_), hm, F.kp, F.binds fun _ _ _ _ _ _ us hl => match us, hl with | [_, _], _ => rfl⟩
  · obtain ⟨p, n, rfl, _⟩ := h
    rfl
  obtain ⟨p, n, rfl, fd0, n1, n36, k⟩ := h
  refine ⟨_, (pss_cons (ps_asg (pe_tup (pa_cons pe_str (pa_cons (pe_callO O.law_take hr (by rfl) pass0 (pa_cons (pv 0) (pa_cons pe_int pa_nil))) pa_nil))) (pg_tup rfl (pgs_cons (pg_name (i := 2) sc_titles.nd rfl (Or.inr rfl)) (pgs_cons (pg_name (i := 3) sc_titles.nd rfl (Or.inr rfl)) pgs_nil))))
  (pss_cons (ps_set (i := 4) sc_titles.nd rfl (Or.inl rfl) (pe_op op_mul (pe_callO O.law_take hr (by rfl) pass0 (pa_cons (pv 0) (pa_cons pe_int pa_nil))) (pe_callTy call_int1 (by rfl) T.n_int (by decide +kernel) (pa_cons (pe_cmpR op_lt (pv 1) pe_int (nomark _)) pa_nil))))
  (pss_cons (ps_if (PW.pt (pw_and (pt_cmpR op_eq (pv 4) pe_int (nomark _)) (pw_and1 (pt_cmpR op_lt (pv 1) pe_int (nomark _)))))
  (pss_one (ps_ret (pe_slice sl_list (pe_callO O.law_mixed hr (by rfl) pass0 (pa_cons (pv 0) (pa_cons (pe_lst (pa_cons pe_str (pa_cons pe_str (pa_cons pe_str (pa_cons pe_str pa_nil))))) pa_nil))) po_none (po_some (pv 1)))))
  pss_nil)
  (pss_cons (ps_if (pt_cmpR op_eq (pv 4) pe_int (nomark _))
  (pss_one (ps_ret (pe_lc (own := [("_law_k", 5)]) (g := gName 5) (tt := tYes) (by rfl) sc_titles.nd (pi_range1 (by rfl) T.n_range (pa_cons (pv 1) pa_nil)) (blkOk_by (own := [("_law_k", 5)]) (N := ["_law_feed_here", "_law_many", "_law_signs", "_law_start", "_law_form", "_law_k"]) (sc := defScope s_titles) (by decide +kernel)) (fun _ _ _ _ _ => (pg_name (i := 5) sc_titles.nd rfl (Or.inl rfl))) (fun _ _ _ _ _ => pts_nil) (fun _ _ _ _ _ => (pe_op op_add_str (pe_ix ix_str (pv 2) (pe_op op_mod (pe_op op_add (pv 3) (pv 5)) pe_int) (fun _ _ => rfl)) (pe_callTy call_str_int (by rfl) T.n_str (by decide +kernel) (pa_cons (pe_op op_add (pe_op op_mul (pv 3) pe_int) (pv 5)) pa_nil)))))))
  pss_nil)
  (pss_cons (ps_if (pt_cmpR op_eq (pv 4) pe_int (nomark _))
  (pss_one (ps_ret (pe_callO O.law_mixed hr (by rfl) pass0 (pa_cons (pv 0) (pa_cons (pe_lc (own := [("_law_k", 5)]) (g := gName 5) (tt := tYes) (by rfl) sc_titles.nd (pi_range1 (by rfl) T.n_range (pa_cons (pv 1) pa_nil)) (blkOk_by (own := [("_law_k", 5)]) (N := ["_law_feed_here", "_law_many", "_law_signs", "_law_start", "_law_form", "_law_k"]) (sc := defScope s_titles) (by decide +kernel)) (fun _ _ _ _ _ => (pg_name (i := 5) sc_titles.nd rfl (Or.inl rfl))) (fun _ _ _ _ _ => pts_nil) (fun _ _ _ _ _ => (pe_op op_add_str pe_str (pe_ix ix_str (pv 2) (pe_op op_mod (pe_op op_add (pv 3) (pe_op op_mul pe_int (pv 5))) pe_int) (fun _ _ => rfl))))) pa_nil)))))
  pss_nil)
  (pss_cons (ps_if (pt_cmpR op_eq (pv 4) pe_int (nomark _))
  (pss_one (ps_ret (pe_callO O.law_mixed hr (by rfl) pass0 (pa_cons (pv 0) (pa_cons (pe_lc (own := [("_law_k", 5)]) (g := gName 5) (tt := tYes) (by rfl) sc_titles.nd (pi_range1 (by rfl) T.n_range (pa_cons (pv 1) pa_nil)) (blkOk_by (own := [("_law_k", 5)]) (N := ["_law_feed_here", "_law_many", "_law_signs", "_law_start", "_law_form", "_law_k"]) (sc := defScope s_titles) (by decide +kernel)) (fun _ _ _ _ _ => (pg_name (i := 5) sc_titles.nd rfl (Or.inl rfl))) (fun _ _ _ _ _ => pts_nil) (fun _ _ _ _ _ => (pe_op op_add_str (pe_op op_add_str pe_str (pe_ix ix_str (pv 2) (pe_op op_mod (pe_op op_add (pv 3) (pv 5)) pe_int) (fun _ _ => rfl))) pe_str))) pa_nil)))))
  pss_nil)
  (pss_one (ps_ret (pe_callO O.law_mixed hr (by rfl) pass0 (pa_cons (pv 0) (pa_cons (pe_lc (own := [("_law_k", 5)]) (g := gName 5) (tt := tYes) (by rfl) sc_titles.nd (pi_range1 (by rfl) T.n_range (pa_cons (pv 1) pa_nil)) (blkOk_by (own := [("_law_k", 5)]) (N := ["_law_feed_here", "_law_many", "_law_signs", "_law_start", "_law_form", "_law_k"]) (sc := defScope s_titles) (by decide +kernel)) (fun _ _ _ _ _ => (pg_name (i := 5) sc_titles.nd rfl (Or.inl rfl))) (fun _ _ _ _ _ => pts_nil) (fun _ _ _ _ _ => (pe_op op_mulS (pe_ix ix_str (pv 2) (pe_op op_mod (pv 5) pe_int) (fun _ _ => rfl)) (pe_op op_add (pe_op op_add pe_int (pe_op op_fdivW (pv 5) pe_int)) (pe_op op_mod (pv 3) pe_int))))) pa_nil))))))))))), ?_⟩
  have l1 : (2000 : Nat) ≤ sizeLine := by decide
  refine ⟨_, rfl, p, _, rfl, fd0, by decide, by decide, fun st H0 m0 s0 s1 => ⟨by show 2 ≤ sizeLine; decide, fun q nq => ⟨q, _, rfl, .of upd_same, rfl, _, _, rfl, _, _, rfl, rfl, ?_⟩⟩⟩
  have m1 := m0.same (sNew (o := .tup [.str SIGS, .int st]) nq)
  show tSeq _ _ _ _ (upd H0 q (.tup [.str SIGS, .int st]))
  generalize upd H0 q (.tup [.str SIGS, .int st]) = H1 at m1 ⊢
  refine ⟨_, rfl, p, _, rfl, m1.fed, by decide, by decide, fun fo H2 m2 f0 f1 => ?_⟩
  refine ⟨_, rfl, _, _, rfl, rfl, .inr ⟨_, rfl, _, _, rfl, rfl, .inl ⟨by omega, by omega⟩, ?_⟩⟩
  have e37 : fo * (if decide (((n : Nat) : Int) < 37) = true then (1 : Int) else 0) = fo := by
    rw [decide_eq_true (by omega), if_pos rfl, Int.mul_one]
  dsimp only
  rw [e37]
  have mv := m1.trans m2
  have fd2 := m2.fed
  clear m1 m2
  -- the end of a mixed list
  have fin : ∀ {t : Int → Int → Str} {m : Nat}, ttOk t m = true → n ≤ m → ∀ {D : Addr}, H2 D = none → ∀ l ys H', Mv p (upd H2 D (.lst ((tl t st n).map V.str))) H' → (upd H2 D (.lst ((tl t st n).map V.str))) l = none → H' l = some (.lst ys) → ys.Perm ((tl t st n).map V.str) → Q (.ref l) H' := fun {t m} c hm {D} nD l ys H' mq nl hl pm => by
    obtain ⟨zs, rfl, pz⟩ := perm_str pm
    exact k l zs H' ((mv.same (sNew nD)).trans mq) (mv.free fd0 ((sNew (o := .lst ((tl t st n).map V.str)) nD).free nl)) hl ((tls_of c s0 s1 hm).perm pz)
  refine seq_if (fun H' => H' = H2) (fun H' e => ?_) fun rest => ?_
  rotate_left
  · refine ⟨_, rfl, rfl, _, rfl, ite2 (fun c => ?_) (fun c => rest _ rfl)⟩
    have hf : fo = 4 := V.int.inj (of_decide_eq_true c)
    refine ⟨_, rfl, _, _, rfl, rfl, _, rfl, ite2 (fun c2 => ?_) (fun c2 => rest _ rfl)⟩
    have hn : ((n : Nat) : Int) < 5 := of_decide_eq_true c2
    refine ⟨_, rfl, by show 4 ≤ sizeLine; decide, fun b nb => ⟨p, b, _, rfl, fd2.same (sNew nb), SqL.of upd_same, by decide, fun l ys H3 m3 nl hl pm => ?_⟩⟩
    obtain ⟨zs, rfl, pz⟩ := perm_str (xs := base4) pm
    have h4 := tls4.perm pz
    refine ⟨_, rfl, _, rfl, l, _, rfl, SqL.of hl, fun q nq => ?_⟩
    have ec : cutV (zs.map V.str) none (some ((n : Nat) : Int)) = (zs.take n).map V.str := by
      unfold cutV
      rw [List.length_map, h4.1]
      show ((zs.map V.str).drop 0).take ((if ((n : Nat) : Int) < 0 then (((n : Nat) : Int) + ((4 : Nat) : Int)).toNat else min ((n : Nat) : Int).toNat 4) - 0) = _
      rw [if_neg (by omega), Int.toNat_natCast, Nat.min_eq_left (by omega), List.drop_zero, Nat.sub_zero, List.map_take]
    rw [ec]
    have mm := ((mv.same (sNew nb)).trans m3).same (sNew (o := .lst ((zs.take n).map V.str)) nq)
    exact k q (zs.take n) _ mm (((mv.same (sNew nb)).trans m3).free fd0 nq) upd_same (h4.take (by omega))
  rw [e]
  clear e H'
  refine ⟨_, rfl, rfl, _, rfl, ite2 (fun c => ?_) (fun c => ?_)⟩
  · refine ⟨_, rfl, _, rfl, by omega, by omega, fun D nD => lc_range (lo := 0) (n := ((n : Nat) : Int).toNat) (fun j H3 => H3 = upd H2 D (.lst ((tl t0 st j).map V.str))) rfl ?_ ?_⟩
    · rintro j H3 hj rfl
      have hj36 : j < 36 := by omega
      refine ⟨rfl, ?_⟩
      simp only [tYes, if_true]
      refine ⟨_, rfl, _, rfl, _, rfl, _, _, rfl, rfl, _, _, rfl, rfl, (by decide : (0 : Int) < 26), _, _, _, rfl, rfl, by decide, sg_at (by omega) (by omega), _, rfl, _, _, rfl, rfl, .inl ⟨by omega, by omega⟩, _, rfl, _, _, rfl, rfl, _, rfl, small (by omega) (by omega), _, _, rfl, rfl, by have := numLen (z := st * 7 + (0 + (j : Nat))) (by omega) (by omega); show 1 + _ ≤ sizeLine; omega, _, upd_same, by rw [List.length_map, tl_len]; omega, ?_⟩
      rw [upd_upd, tl_succ, List.map_append]
      rfl
    · rintro _ rfl
      rw [Int.toNat_natCast]
      exact k D _ _ (mv.same (sNew nD)) (mv.free fd0 nD) upd_same (tls_of tt0 s0 s1 (by omega))
  refine ⟨_, rfl, rfl, _, rfl, ite2 (fun c => ?_) (fun c => ?_)⟩
  · refine ⟨_, rfl, _, rfl, _, rfl, by omega, by omega, fun D nD => lc_range (lo := 0) (n := ((n : Nat) : Int).toNat) (fun j H3 => H3 = upd H2 D (.lst ((tl t1 st j).map V.str))) rfl ?_ ?_⟩
    · rintro j H3 hj rfl
      have hj36 : j < 36 := by omega
      refine ⟨rfl, ?_⟩
      simp only [tYes, if_true]
      refine ⟨_, rfl, _, rfl, _, rfl, _, _, rfl, rfl, .inl ⟨by decide, by decide⟩, _, _, rfl, rfl, _, _, rfl, rfl, (by decide : (0 : Int) < 36), _, _, _, rfl, rfl, by decide, sg_at (by omega) (by omega), _, _, rfl, rfl, by show 1 + 1 ≤ sizeLine; decide, _, upd_same, by rw [List.length_map, tl_len]; omega, ?_⟩
      rw [upd_upd, tl_succ, List.map_append]
      rfl
    · rintro _ rfl
      rw [Int.toNat_natCast]
      exact ⟨p, D, _, rfl, fd2.same (sNew nD), SqL.of upd_same, by rw [List.length_map, tl_len]; omega, fin tt1 n36 nD⟩
  refine ⟨_, rfl, rfl, _, rfl, ite2 (fun c => ?_) (fun c => ?_)⟩
  · refine ⟨_, rfl, _, rfl, _, rfl, by omega, by omega, fun D nD => lc_range (lo := 0) (n := ((n : Nat) : Int).toNat) (fun j H3 => H3 = upd H2 D (.lst ((tl t2 st j).map V.str))) rfl ?_ ?_⟩
    · rintro j H3 hj rfl
      have hj36 : j < 36 := by omega
      refine ⟨rfl, ?_⟩
      simp only [tYes, if_true]
      refine ⟨_, rfl, _, rfl, _, rfl, _, _, rfl, rfl, _, _, rfl, rfl, (by decide : (0 : Int) < 36), _, _, _, rfl, rfl, by decide, sg_at (by omega) (by omega), _, _, rfl, rfl, by show 4 + 1 ≤ sizeLine; decide, _, _, rfl, rfl, by show 5 + 1 ≤ sizeLine; decide, _, upd_same, by rw [List.length_map, tl_len]; omega, ?_⟩
      rw [upd_upd, tl_succ, List.map_append]
      rfl
    · rintro _ rfl
      rw [Int.toNat_natCast]
      exact ⟨p, D, _, rfl, fd2.same (sNew nD), SqL.of upd_same, by rw [List.length_map, tl_len]; omega, fin tt2 n36 nD⟩
  · refine ⟨_, rfl, _, rfl, _, rfl, by omega, by omega, fun D nD => lc_range (lo := 0) (n := ((n : Nat) : Int).toNat) (fun j H3 => H3 = upd H2 D (.lst ((tl t3 st j).map V.str))) rfl ?_ ?_⟩
    · rintro j H3 hj rfl
      have hj36 : j < 36 := by omega
      refine ⟨rfl, ?_⟩
      simp only [tYes, if_true]
      refine ⟨_, rfl, _, rfl, _, _, rfl, rfl, (by decide : (0 : Int) < 26), _, _, _, rfl, rfl, by decide, sg_at (by omega) (by omega), _, rfl, _, _, rfl, rfl, ⟨by decide, by decide⟩, _, _, rfl, rfl, _, rfl, _, _, rfl, rfl, (by decide : (0 : Int) < 3), _, _, rfl, rfl, _, _, rfl, rfl, mulSmall (by omega) (by omega), _, upd_same, by rw [List.length_map, tl_len]; omega, ?_⟩
      rw [upd_upd, tl_succ, List.map_append]
      rfl
    · rintro _ rfl
      rw [Int.toNat_natCast]
      exact ⟨p, D, _, rfl, fd2.same (sNew nD), SqL.of upd_same, by rw [List.length_map, tl_len]; omega, fin tt3 n36 nD⟩
end
end Law

set_option Elab.async false
set_option linter.all false
set_option maxRecDepth 100000
set_option maxHeartbeats 4000000
set_option pp.maxSteps 150
set_option pp.deepTerms.threshold 6
namespace Law
open PySem L2
abbrev s_isname : Stmt := top 10
theorem sc_isname : FnScope ["value", "sign"] ["value"] (defScope s_isname) := ⟨rfl, rfl, rfl, by decide +kernel, rfl, by decide +kernel, by decide +kernel⟩
structure Tn (mg : Str → Option Value) (tL tF tM : Tok) : Prop where
  m_LETTERS : mg "LETTERS" = some (.str LETS tL)
  m_FIGURES : mg "FIGURES" = some (.str FIGS tF)
  m_MOST_SIGNS : mg "MOST_SIGNS" = some (.int 6 tM)
  n_isinstance : mg "isinstance" = none
  n_str : mg "str" = none
  n_len : mg "len" = none
  n_all : mg "all" = none
/-- whether a thing is a name -/
def spName (K : PySem.W.Frag) : Sp := fun vs H Q _ => ∃ v, vs = [v] ∧ ((∃ z : Str, v = .str z ∧ z.length ≤ 1000 ∧ ∀ H', Same H H' → Q (.bl (isNm z)) H') ∨ (∃ t, TyX K H v t ∧ PySem.W.kitOne K t (.type "str") = some false ∧ Q (.bl false) H))
theorem iteT2 {c : Bool} {P Q : Prop} (h : c = true) (p : P) : if c = true then P else Q := by rw [if_pos h]; exact p
theorem iteF2 {c : Bool} {P Q : Prop} (h : c = false) (q : Q) : if c = true then P else Q := by rw [h]; exact iteF q
section
variable {P : Program} {w : World} {K : PySem.W.Frag} {mg : Str → Option Value} {base : Heap} {tL tF tM : Tok}
theorem ok_isname (D : Def K mg "is_name" s_isname) (T : Tn mg tL tF tM) : HasFn P w K mg base CX0 1 "is_name" ["value"] (spName K) := by
  obtain ⟨f, fd, F, hm⟩ := D
  refine ⟨f, fd, F.ok sc_isname (fun vs H Q E h => ?_) (fun cdv A outer s H vs Q E hr h => ?_), hm, F.kp, F.binds fun _ _ _ _ _ _ us hl => match us, hl with | [_], _ => rfl⟩
  · obtain ⟨v, rfl, _⟩ := h
    rfl
  obtain ⟨v, rfl, h⟩ := h
  refine ⟨_, (pss_cons (ps_if (PW.pt (pw_or (pt_not (pt_val (pe_callB call_isi (by rfl) T.n_isinstance (by decide +kernel) (pa_cons (pv 0) (pa_cons (pe_bltn (v := .ty "str") (by rfl) T.n_str (by decide +kernel) rfl) pa_nil))))) (pw_or (pt_not (pt_chain op_le op_le pe_int (pe_callB call_len_str (by rfl) T.n_len (by decide +kernel) (pa_cons (pv 0) pa_nil)) (pe_glob (v := .int 6) (by rfl) T.m_MOST_SIGNS ⟨_, rfl⟩))) (pw_or1 (pt_cmpR op_notIn_sign (pe_ix ix_str (pv 0) pe_int (fun _ _ => rfl)) (pe_glob (v := .str LETS) (by rfl) T.m_LETTERS ⟨_, rfl⟩) (by rfl))))))
  (pss_one (ps_ret pe_bl))
  pss_nil)
  (pss_one (ps_ret (pe_callB (cr_all rfl) (by rfl) T.n_all (by decide +kernel) (pa_cons (pe_lc (own := [("sign", 1)]) (g := gName 1) (tt := tYes) (by rfl) sc_isname.nd (pi_str (pv 0)) (blkOk_by (own := [("sign", 1)]) (N := ["value", "sign"]) (sc := defScope s_isname) (by decide +kernel)) (fun _ _ _ _ _ => (pg_name (i := 1) sc_isname.nd rfl (Or.inl rfl))) (fun _ _ _ _ _ => pts_nil) (fun _ _ _ _ _ => (pe_or (pe_cmpR op_in_sign (pv 1) (pe_glob (v := .str LETS) (by rfl) T.m_LETTERS ⟨_, rfl⟩) (by rfl)) (pe_one (pe_cmpR op_in_sign (pv 1) (pe_glob (v := .str FIGS) (by rfl) T.m_FIGURES ⟨_, rfl⟩) (by rfl)))))) pa_nil))))), ?_⟩
  have l1 : (2000 : Nat) ≤ sizeLine := by decide
  rcases h with ⟨z, rfl, hz, k⟩ | ⟨t, ty, kt, k⟩
  · refine ⟨_, rfl, _, _, _, _, true, rfl, .ty "str", .base (.str z), kit_ty (by decide +kernel), _, rfl, iteF2 rfl ?_⟩
    refine ⟨_, rfl, z, rfl, by omega, _, _, rfl, rfl, _, rfl, ite2 (fun c1 => ?_) (fun c1 => ?_)⟩
    · have h1 : 1 ≤ z.length := by have := of_decide_eq_true c1; omega
      refine ⟨_, _, rfl, rfl, _, rfl, ite2 (fun c2 => ?_) (fun c2 => ?_)⟩
      · have e : isNm z = false := by
          unfold isNm
          have : ¬ z.length ≤ 6 := fun q => by
            rw [decide_eq_true (by omega)] at c2
            cases c2
          simp [this]
        rw [e] at k
        exact k _ (Same.refl H)
      · have h6 : z.length ≤ 6 := by
          rcases Nat.lt_or_ge 6 z.length with q | q
          · exact absurd (by rw [decide_eq_false (by omega)]; rfl) c2
          · exact q
        have hc : atI z.cps.toList 0 = some (z.cps.getD 0 0) := by
          refine atI_nat (j := 0) ?_
          have q : 0 < z.cps.size := h1
          simp [q]
        refine ⟨_, rfl, _, _, _, rfl, rfl, by omega, hc, _, _, rfl, rfl, _, rfl, ite2 (fun c3 => ?_) (fun c3 => ?_)⟩
        · have e : isNm z = false := by
            have c4 : isLet (z.cps.getD 0 0) = false := by
              unfold isLet
              simpa using c3
            unfold isNm
            rw [c4]
            simp
          rw [e] at k
          exact k _ (Same.refl H)
        · have c4 : isLet (z.cps.getD 0 0) = true := by
            unfold isLet
            simpa using c3
          refine ⟨_, rfl, z, rfl, fun D nD => lc_it walk_str (fun i H1 => H1 = upd H D (.lst ((z.cps.toList.take i).map fun c => V.bl (isSig c)))) rfl (fun _ _ _ _ => trivial) ?_ ?_⟩
          · rintro i x H1 H1' hi rfl ⟨rfl, c, hc, rfl⟩
            refine ⟨rfl, ?_⟩
            simp only [tYes, if_true]
            have hc' : z.cps.toList[i]? = some c := by rw [Array.getElem?_toList]; exact hc
            have st : ∀ b, isSig c = b → upd (upd H D (.lst ((z.cps.toList.take i).map fun c => V.bl (isSig c)))) D (.lst ((z.cps.toList.take i).map (fun c => V.bl (isSig c)) ++ [V.bl b])) = upd H D (.lst ((z.cps.toList.take (i + 1)).map fun c => V.bl (isSig c))) := fun b e => by
              rw [upd_upd, List.take_succ, hc', List.map_append]
              show _ = upd H D (.lst (_ ++ [V.bl (isSig c)]))
              rw [e]
            have ln : ((z.cps.toList.take i).map fun c => V.bl (isSig c)).length < sizeLine := by
              rw [List.length_map, List.length_take]
              have : z.cps.toList.length = z.length := Array.length_toList
              omega
            refine ⟨_, rfl, _, _, rfl, rfl, _, rfl, ite2 (fun d => ⟨_, upd_same, ln, st _ ?_⟩) (fun d => ⟨_, rfl, _, _, rfl, rfl, _, upd_same, ln, st _ ?_⟩)⟩
            · unfold isSig isLet
              rw [d]
              rfl
            · unfold isSig isLet
              rw [eq_false_of_ne_true d]
              rfl
          · rintro _ rfl
            have eb : (z.cps.toList.take z.cps.size).map (fun c => V.bl (isSig c)) = (z.cps.toList.map isSig).map V.bl := by
              rw [List.take_of_length_le (by simp), List.map_map]
              rfl
            rw [eb]
            refine ⟨D, _, rfl, SqL.of upd_same, ?_⟩
            have en : isNm z = (z.cps.toList.map isSig).all id := by
              unfold isNm
              rw [c4, decide_eq_true h1, decide_eq_true h6, List.all_map]
              rfl
            rw [← en]
            exact k _ (sNew nD)
    · have e : isNm z = false := by
        have : ¬ 1 ≤ z.length := fun q => c1 (decide_eq_true (by omega))
        unfold isNm
        simp [this]
      rw [e] at k
      exact ⟨_, rfl, iteT2 rfl (k _ (Same.refl H))⟩
  · exact ⟨_, rfl, _, _, _, _, _, rfl, .ty "str", ty, kt, _, rfl, iteT2 rfl k⟩
end
end Law

set_option Elab.async false
set_option linter.all false
set_option maxRecDepth 100000
set_option maxHeartbeats 4000000
set_option pp.maxSteps 150
set_option pp.deepTerms.threshold 6
namespace Law
open PySem L2
abbrev s_cinit : Stmt := inClass (top 14) 0
theorem sc_cinit : FnScope ["self"] ["self"] (defScope s_cinit) := ⟨rfl, rfl, rfl, by decide +kernel, rfl, by decide +kernel, by decide +kernel⟩
abbrev s_cmade : Stmt := inClass (top 14) 1
theorem sc_cmade : FnScope ["cls", "rows", "given", "found", "name", "many", "number"] ["cls", "rows", "given"] (defScope s_cmade) := ⟨rfl, rfl, rfl, by decide +kernel, rfl, by decide +kernel, by decide +kernel⟩
abbrev s_ceq : Stmt := inClass (top 14) 2
theorem sc_ceq : FnScope ["self", "other"] ["self", "other"] (defScope s_ceq) := ⟨rfl, rfl, rfl, by decide +kernel, rfl, by decide +kernel, by decide +kernel⟩
abbrev s_clen : Stmt := inClass (top 14) 3
theorem sc_clen : FnScope ["self"] ["self"] (defScope s_clen) := ⟨rfl, rfl, rfl, by decide +kernel, rfl, by decide +kernel, by decide +kernel⟩
abbrev s_cin : Stmt := inClass (top 14) 4
theorem sc_cin : FnScope ["self", "name"] ["self", "name"] (defScope s_cin) := ⟨rfl, rfl, rfl, by decide +kernel, rfl, by decide +kernel, by decide +kernel⟩
abbrev s_cget : Stmt := inClass (top 14) 6
theorem sc_cget : FnScope ["self", "name"] ["self", "name"] (defScope s_cget) := ⟨rfl, rfl, rfl, by decide +kernel, rfl, by decide +kernel, by decide +kernel⟩
abbrev s_cplace : Stmt := inClass (top 14) 7
theorem sc_cplace : FnScope ["self", "name"] ["self", "name"] (defScope s_cplace) := ⟨rfl, rfl, rfl, by decide +kernel, rfl, by decide +kernel, by decide +kernel⟩
abbrev s_cnumber : Stmt := inClass (top 14) 8
theorem sc_cnumber : FnScope ["self", "name"] ["self", "name"] (defScope s_cnumber) := ⟨rfl, rfl, rfl, by decide +kernel, rfl, by decide +kernel, by decide +kernel⟩
abbrev s_cput : Stmt := inClass (top 14) 9
theorem sc_cput : FnScope ["self", "name", "many"] ["self", "name", "many"] (defScope s_cput) := ⟨rfl, rfl, rfl, by decide +kernel, rfl, by decide +kernel, by decide +kernel⟩
abbrev s_cwithout : Stmt := inClass (top 14) 10
theorem sc_cwithout : FnScope ["self", "name", "at"] ["self", "name"] (defScope s_cwithout) := ⟨rfl, rfl, rfl, by decide +kernel, rfl, by decide +kernel, by decide +kernel⟩
/-! ### the fields of choices -/
abbrev Row := Str × Int × Int
def cf (te tn : Addr) (g : Int) : List (Str × V) := [("entries", V.ref te), ("names", V.ref tn), ("given", V.int g)]
theorem ne1 : (("names" : Str) == "entries") = false := by decide +kernel
theorem ne2 : (("given" : Str) == "entries") = false := by decide +kernel
theorem ne3 : (("given" : Str) == "names") = false := by decide +kernel
theorem ee (x : Str) : (x == x) = true := by simp
theorem cf_e {te tn : Addr} {g : Int} : (cf te tn g).lookup ("entries" : Str) = some (.ref te) := by
  unfold cf
  rw [List.lookup_cons, ee]
theorem cf_n {te tn : Addr} {g : Int} : (cf te tn g).lookup ("names" : Str) = some (.ref tn) := by
  unfold cf
  rw [List.lookup_cons, ne1]
  dsimp only
  rw [List.lookup_cons, ee]
theorem cf_g {te tn : Addr} {g : Int} : (cf te tn g).lookup ("given" : Str) = some (.int g) := by
  unfold cf
  rw [List.lookup_cons, ne2]
  dsimp only
  rw [List.lookup_cons, ne3]
  dsimp only
  rw [List.lookup_cons, ee]
theorem cf_no {te tn : Addr} {g : Int} {m : Str} (h1 : (m == ("entries" : Str)) = false) (h2 : (m == ("names" : Str)) = false) (h3 : (m == ("given" : Str)) = false) : (cf te tn g).lookup m = none := by
  unfold cf
  rw [List.lookup_cons, h1]
  dsimp only
  rw [List.lookup_cons, h2]
  dsimp only
  rw [List.lookup_cons, h3]
  rfl
theorem d1 : ¬ (("entries" : Str) = "names") := by decide +kernel
theorem d2 : ¬ (("entries" : Str) = "given") := by decide +kernel
theorem d3 : ¬ (("names" : Str) = "given") := by decide +kernel
theorem d4 : ¬ (("names" : Str) = "entries") := by decide +kernel
theorem put0 {te tn : Addr} {g : Int} : putF "given" (.int g) (putF "names" (.ref tn) (putF "entries" (.ref te) [])) = cf te tn g := by
  simp [putF, cf, d1, d2, d3]
theorem putE {te tn t : Addr} {g : Int} : putF "entries" (.ref t) (cf te tn g) = cf t tn g := by simp [putF, cf]
theorem putN {te tn t : Addr} {g : Int} : putF "names" (.ref t) (cf te tn g) = cf te t g := by simp [putF, cf, d1]
theorem putG {te tn : Addr} {g g' : Int} : putF "given" (.int g') (cf te tn g) = cf te tn g' := by simp [putF, cf, d2, d3]
/-- the tuple of rows -/
def RowT (H : Hp) (t : Addr) (r : Row) : Prop := H t = some (.tup [.str r.1, .int r.2.1, .int r.2.2])
inductive Rows (H : Hp) : List Addr → List Row → Prop
  | nil : Rows H [] []
  | cons {t : Addr} {ts : List Addr} {r : Row} {rs : List Row} : RowT H t r → Rows H ts rs → Rows H (t :: ts) (r :: rs)
def EnT (H : Hp) (te : Addr) (rows : List Row) : Prop := ∃ ts : List Addr, H te = some (.tup (ts.map V.ref)) ∧ Rows H ts rows
def NmT (H : Hp) (tn : Addr) (rows : List Row) : Prop := (rows = [] ∧ H tn = some (.tup [])) ∨ Tf H tn (rows.map fun r => V.str r.1)
theorem NmT.same {H H' : Hp} {tn : Addr} {rows : List Row} (s : Same H H') (h : NmT H tn rows) : NmT H' tn rows := h.elim (fun ⟨a, b⟩ => .inl ⟨a, s _ _ b⟩) fun q => .inr (q.same s)
theorem NmT.sqt {K : PySem.W.Frag} {H : Hp} {tn : Addr} {rows : List Row} (h : NmT H tn rows) : SqT K H tn (rows.map fun r => V.str r.1) := by
  rcases h with ⟨rfl, h⟩ | h
  · exact SqT.of h
  · exact h.sqt
theorem NmT.tf {H : Hp} {tn : Addr} {rows : List Row} (h : NmT H tn rows) (n : rows ≠ []) : Tf H tn (rows.map fun r => V.str r.1) := h.resolve_left fun q => n q.1
/-- choices stand at p -/
def ChAt (C : Addr) (H : Hp) (p : Addr) (rows : List Row) (g : Int) : Prop := ∃ dx te tn, H p = some (.ins C dx (cf te tn g)) ∧ EnT H te rows ∧ NmT H tn rows
theorem Rows.same {H H' : Hp} (s : Same H H') : ∀ {ts : List Addr} {rs : List Row}, Rows H ts rs → Rows H' ts rs
  | _, _, .nil => .nil
  | _, _, .cons h r => .cons (s _ _ h) (r.same s)
theorem Rows.len {H : Hp} : ∀ {ts : List Addr} {rs : List Row}, Rows H ts rs → ts.length = rs.length
  | _, _, .nil => rfl
  | _, _, .cons _ r => congrArg (· + 1) r.len
theorem Rows.at {H : Hp} : ∀ {ts : List Addr} {rs : List Row} {j : Nat} {t : Addr}, Rows H ts rs → ts[j]? = some t → ∃ r, rs[j]? = some r ∧ RowT H t r
  | _, _, 0, _, .cons h _, e => by cases e; exact ⟨_, rfl, h⟩
  | _, _, j + 1, _, .cons _ r, e => r.at (j := j) e
theorem Rows.get {H : Hp} : ∀ {ts : List Addr} {rs : List Row} {j : Nat} {r : Row}, Rows H ts rs → rs[j]? = some r → ∃ t, ts[j]? = some t ∧ RowT H t r
  | _, _, 0, _, .cons h _, e => by cases e; exact ⟨_, rfl, h⟩
  | _, _, j + 1, _, .cons _ r, e => r.get (j := j) e
theorem Rows.app {H : Hp} : ∀ {ts us : List Addr} {rs qs : List Row}, Rows H ts rs → Rows H us qs → Rows H (ts ++ us) (rs ++ qs)
  | _, _, _, _, .nil, q => q
  | _, _, _, _, .cons h r, q => .cons h (r.app q)
theorem Rows.take {H : Hp} : ∀ {ts : List Addr} {rs : List Row} (n : Nat), Rows H ts rs → Rows H (ts.take n) (rs.take n)
  | _, _, 0, _ => by simpa using Rows.nil
  | _, _, _ + 1, .nil => by simpa using Rows.nil
  | _, _, n + 1, .cons h r => .cons h (r.take n)
theorem Rows.drop {H : Hp} : ∀ {ts : List Addr} {rs : List Row} (n : Nat), Rows H ts rs → Rows H (ts.drop n) (rs.drop n)
  | _, _, 0, r => r
  | _, _, _ + 1, .nil => .nil
  | _, _, n + 1, .cons _ r => r.drop n
theorem EnT.same {H H' : Hp} {te : Addr} {rows : List Row} (s : Same H H') (h : EnT H te rows) : EnT H' te rows := let ⟨ts, e, r⟩ := h; ⟨ts, s _ _ e, r.same s⟩
theorem ChAt.same {C : Addr} {H H' : Hp} {p : Addr} {rows : List Row} {g : Int} (s : Same H H') (h : ChAt C H p rows g) : ChAt C H' p rows g :=
  let ⟨dx, te, tn, e, r, q⟩ := h; ⟨dx, te, tn, s _ _ e, r.same s, q.same s⟩
/-! ### promises -/
def spCInit (C : Addr) : Sp := fun vs H Q _ => ∃ p dx : Addr, vs = [.ref p] ∧ H p = some (.ins C dx []) ∧ ∀ te tn H', H te = none → H tn = none → te ≠ tn → (∀ b o, b ≠ p → H b = some o → H' b = some o) → H' p = some (.ins C dx (cf te tn 0)) → H' te = some (.tup []) → H' tn = some (.tup []) → Q .non H'
/-- new choices of given rows -/
def spMade (C : Addr) : Sp := fun vs H Q _ => ∃ (te : Addr) (rows : List Row) (g : Int), vs = [.ref C, .ref te, .int g] ∧ EnT H te rows ∧ rows.length ≤ 1000 ∧ ∀ p H', Same H H' → H p = none → ChAt C H' p rows g → Q (.ref p) H'
def spLen (C : Addr) : Sp := fun vs H Q _ => ∃ (p : Addr) (rows : List Row) (g : Int), vs = [.ref p] ∧ ChAt C H p rows g ∧ rows.length ≤ 1000 ∧ Q (.int rows.length) H
def spIn (C : Addr) : Sp := fun vs H Q _ => ∃ (p : Addr) (rows : List Row) (g : Int) (z : Str), vs = [.ref p, .str z] ∧ ChAt C H p rows g ∧ Q (.bl (decide (z ∈ rows.map (·.1)))) H
/-- where a name stands; UnknownName if nowhere -/
def spAt (C Cu : Addr) (f : Nat → List Row → V) : Sp := fun vs H Q E => ∃ (p : Addr) (rows : List Row) (g : Int) (z : Str), vs = [.ref p, .str z] ∧ ChAt C H p rows g ∧ rows.length ≤ 1000 ∧
  (z ∉ rows.map (·.1) → ∀ d, H d = none → E (.ref Cu) (some d) (upd H d (.xd [("name", .str z)]))) ∧ ∀ j, rows[j]?.map (·.1) = some z → (∀ m, m < j → rows[m]?.map (·.1) ≠ some z) → Q (f j rows) H
section
variable {P : Program} {w : World} {K : PySem.W.Frag} {mg : Str → Option Value} {base : Heap} {C Cu Ci Ct : Addr}
structure Txt4 (P : Program) (w : World) (K : PySem.W.Frag) (mg : Str → Option Value) (C Cu Ci Ct : Addr) : Prop where
  cl : Cls K C
  nE : NoAttr K C "entries"
  nN : NoAttr K C "names"
  nG : NoAttr K C "given"
  m_Choices : mg "Choices" = some (.ref C)
  x_UnknownName : Xc P w K mg "UnknownName" Cu ["name"]
  x_InvalidName : Xc P w K mg "InvalidName" Ci ["name"]
  x_Taken : Xc P w K mg "Taken" Ct ["name"]
  n_tuple : mg "tuple" = none
  n_len : mg "len" = none
  n_isinstance : mg "isinstance" = none
  n_range : mg "range" = none
  n_list : mg "list" = none
  n_int : mg "int" = none
  n_max : mg "max" = none
  n_min : mg "min" = none
  ca : PySem.W.findIn K (.ref C) "__class__" = some (some (.builtin "object.__class__"))
  cb : PySem.W.specialIn K (.builtin "object.__class__") "__get__" = some (some (.builtin "getset_descriptor.__get__"))
  cc : PySem.W.takesIn K (.builtin "object.__class__") = some true
  cd : PySem.W.mroIn K C (.type "object") = some true
  kC : PySem.W.kitOne K (.ref C) (.ref C) = some true
  kL : PySem.W.kitOne K (.type "list") (.ref C) = some false
  nfL : PySem.W.notFirst K C (.type "list") = true
theorem ok_cinit {f : Addr} {fd : FuncData} (F : Fun K "__init__" "Choices.__init__" s_cinit f fd) (T : Txt4 P w K mg C Cu Ci Ct) : FnOk P w K mg base CX0 1 f fd ["self"] (spCInit C) := by
  refine F.ok sc_cinit (fun vs H Q E h => ?_) (fun cdv A outer s H vs Q E hr h => ?_)
  · obtain ⟨p, dx, rfl, _⟩ := h
    rfl
  obtain ⟨p, dx, rfl, hp, k⟩ := h
  refine ⟨_, (pss_cons (ps_fld (pv 0) (pe_tup pa_nil) rfl)
  (pss_cons (ps_fld (pv 0) (pe_tup pa_nil) rfl)
  (pss_one (ps_fld (pv 0) pe_int rfl)))), ?_⟩
  refine ⟨by show 0 ≤ sizeLine; decide, fun te nte => ⟨_, rfl, p, C, dx, [], rfl, sNew nte _ _ hp, T.cl, T.nE, (by show 0 < 1000; decide), ?_⟩⟩
  have e1 : te ≠ p := fun z => by subst z; rw [hp] at nte; cases nte
  refine ⟨by show 0 ≤ sizeLine; decide, fun tn ntn => ⟨_, rfl, p, C, dx, _, rfl, sNew ntn _ _ upd_same, T.cl, T.nN, (by show 1 < 1000; decide), ?_⟩⟩
  have e2 : tn ≠ p := fun z => by subst z; rw [upd_same] at ntn; cases ntn
  have e3 : tn ≠ te := fun z => by
    subst z
    rw [upd_ne e1, upd_same] at ntn
    cases ntn
  have ntn0 : H tn = none := by
    rw [upd_ne e2, upd_ne e3] at ntn
    exact ntn
  refine ⟨_, rfl, p, C, dx, _, rfl, upd_same, T.cl, T.nG, (by show 2 < 1000; decide), ?_⟩
  rw [put0]
  refine k te tn _ nte ntn0 (Ne.symm e3) (fun b o nb e => ?_) upd_same ?_ ?_
  · rw [upd_ne nb, upd_ne nb, upd_ne (ne_of_none e ntn0), upd_ne nb, upd_ne (ne_of_none e nte)]
    exact e
  · rw [upd_ne e1, upd_ne e1, upd_ne (Ne.symm e3), upd_ne e1, upd_same]
  · rw [upd_ne e2, upd_ne e2, upd_same]
end
end Law

set_option Elab.async false
set_option linter.all false
set_option maxRecDepth 100000
set_option maxHeartbeats 4000000
set_option pp.maxSteps 150
set_option pp.deepTerms.threshold 6
namespace Law
open PySem L2
theorem inV_names {z : Str} : ∀ {rows : List Row}, inV (.str z) (rows.map fun r => V.str r.1) = decide (z ∈ rows.map (·.1))
  | [] => rfl
  | r :: rows => by
    have ih := inV_names (z := z) (rows := rows)
    unfold inV at ih ⊢
    rw [List.map_cons, List.any_cons, ih, List.map_cons]
    by_cases h : r.1 = z
    · subst h
      simp [eqV]
    · have h' : z ≠ r.1 := fun q => h q.symm
      show ((r.1 == z) || decide (z ∈ rows.map (·.1))) = decide (z ∈ r.1 :: rows.map (·.1))
      rw [beq_eq_false_iff_ne.mpr h, Bool.false_or]
      exact decide_eq_decide.mpr ⟨fun q => List.mem_cons_of_mem _ q, fun q => (List.mem_cons.mp q).resolve_left h'⟩
theorem flat_names : ∀ {rows : List Row}, (rows.map fun r => V.str r.1).all flatV = true
  | [] => rfl
  | r :: rows => by rw [List.map_cons, List.all_cons, flat_names]; rfl
/-- the first place of a name -/
theorem first_at {z : Str} : ∀ {rows : List Row}, z ∈ rows.map (·.1) → ∃ j : Nat, rows[j]?.map (·.1) = some z ∧ ∀ m, m < j → rows[m]?.map (·.1) ≠ some z
  | r :: rows, h => by
    by_cases e : r.1 = z
    · exact ⟨0, by simp [e], fun m hm => absurd hm (Nat.not_lt_zero m)⟩
    · have h' : z ∈ rows.map (·.1) := by
        rw [List.map_cons] at h
        exact (List.mem_cons.mp h).resolve_left fun q => e q.symm
      obtain ⟨j, h1, h2⟩ := first_at h'
      refine ⟨j + 1, by simpa using h1, fun m hm => ?_⟩
      cases m with
      | zero => simpa using e
      | succ m => simpa using h2 m (by omega)
theorem names_get {rows : List Row} {j : Nat} : (rows.map (·.1))[j]? = rows[j]?.map (·.1) := List.getElem?_map ..
section
variable {P : Program} {w : World} {K : PySem.W.Frag} {mg : Str → Option Value} {base : Heap} {C Cu Ci Ct : Addr}
theorem ok_clen (D : DefM K C "__len__" "Choices.__len__" s_clen) (T : Txt4 P w K mg C Cu Ci Ct) : HasM P w K mg base CX0 1 C "__len__" ["self"] (spLen C) := by
  obtain ⟨f, fd, F, hs, hf⟩ := D
  refine ⟨f, fd, F.ok sc_clen (fun vs H Q E h => ?_) (fun cdv A outer s H vs Q E hr h => ?_), hs, hf, F.kp, F.binds fun _ _ _ _ _ _ us hl => match us, hl with | [_], _ => rfl⟩
  · obtain ⟨p, rows, g, rfl, _⟩ := h
    rfl
  obtain ⟨p, rows, g, rfl, ⟨dx, te, tn, hp, ⟨ts, ht, hr'⟩, hn⟩, hl, k⟩ := h
  refine ⟨_, (pss_one (ps_ret (pe_callB call_len_seq (by rfl) T.n_len (by decide +kernel) (pa_cons (pe_fld (pv 0) rfl) pa_nil)))), ?_⟩
  refine ⟨_, rfl, p, C, dx, _, _, rfl, hp, T.cl, T.nE, cf_e, te, _, rfl, .inr (SqT.of ht), ?_⟩
  rw [List.length_map, hr'.len]
  exact k
theorem ok_cin (D : DefM K C "__contains__" "Choices.__contains__" s_cin) (T : Txt4 P w K mg C Cu Ci Ct) : HasM P w K mg base CX0 1 C "__contains__" ["self", "name"] (spIn C) := by
  obtain ⟨f, fd, F, hs, hf⟩ := D
  refine ⟨f, fd, F.ok sc_cin (fun vs H Q E h => ?_) (fun cdv A outer s H vs Q E hr h => ?_), hs, hf, F.kp, F.binds fun _ _ _ _ _ _ us hl => match us, hl with | [_, _], _ => rfl⟩
  · obtain ⟨p, rows, g, z, rfl, _⟩ := h
    rfl
  obtain ⟨p, rows, g, z, rfl, ⟨dx, te, tn, hp, he, hn⟩, k⟩ := h
  refine ⟨_, (pss_one (ps_ret (pe_cmpR op_in_seq (pv 1) (pe_fld (pv 0) rfl) (by rfl)))), ?_⟩
  refine ⟨_, rfl, _, rfl, p, C, dx, _, _, rfl, hp, T.cl, T.nN, cf_n, tn, _, rfl, .inr hn.sqt, rfl, flat_names, ?_⟩
  show Q (.bl (inV _ _)) H
  rw [inV_names]
  exact k
theorem ok_cplace (D : DefM K C "place" "Choices.place" s_cplace) (T : Txt4 P w K mg C Cu Ci Ct) : HasM P w K mg base (L2.CX P w) 2 C "place" ["self", "name"] (spAt C Cu fun j _ => .int j) := by
  obtain ⟨f, fd, F, hs, hf⟩ := D
  refine ⟨f, fd, F.okX sc_cplace (fun vs H Q E h => ?_) (fun cdv A outer s H vs Q E hr h => ?_), hs, hf, F.kp, F.binds fun _ _ _ _ _ _ us hl => match us, hl with | [_, _], _ => rfl⟩
  · obtain ⟨p, rows, g, z, rfl, _⟩ := h
    rfl
  obtain ⟨p, rows, g, z, rfl, ⟨dx, te, tn, hp, he, hn⟩, hl, kE, k⟩ := h
  refine ⟨_, (pss_cons (ps_if (pt_cmpR op_notIn_seq (pv 1) (pe_fld (pv 0) rfl) (by rfl))
  (pss_one (ps_raise rfl (takes_of rfl rfl rfl rfl) (pmk_x T.x_UnknownName.mkc (raises_own T.x_UnknownName.ra.1 T.x_UnknownName.ra.2) T.x_UnknownName.kC hr (by rfl) T.x_UnknownName.gC (pa_cons (pv 1) pa_nil))))
  pss_nil)
  (pss_one (ps_ret (pe_bmT PySem.F.plainAttrs_tuple PySem.F.slot_tuple_index PySem.F.type_tuple_index mt_tup_index (pe_fld (pv 0) rfl) (pa_cons (pv 1) pa_nil))))), ?_⟩
  refine ⟨_, rfl, _, rfl, p, C, dx, _, _, rfl, hp, T.cl, T.nN, cf_n, tn, _, rfl, .inr hn.sqt, rfl, flat_names, _, rfl, ite2 (fun c => ?_) (fun c => ?_)⟩
  · have hz : z ∉ rows.map (·.1) := fun q => by
      rw [if_pos rfl, inV_names, decide_eq_true q] at c
      cases c
    exact ⟨_, rfl, rfl, kE hz⟩
  · have hz : z ∈ rows.map (·.1) := by
      rw [if_pos rfl, inV_names] at c
      simpa using c
    obtain ⟨j, h1, h2⟩ := first_at hz
    refine ⟨_, rfl, p, C, dx, _, _, rfl, hp, T.cl, T.nN, cf_n, ⟨tn, _, rfl, hn.tf (fun e => by subst e; cases hz)⟩, _, rfl, tn, rows.map (·.1), z, j, rfl, rfl, by rw [List.map_map]; exact hn.sqt, ?_, ?_, k j h1 h2⟩
    · rw [names_get]
      exact h1
    · intro m hm
      rw [names_get]
      exact h2 m hm
end
end Law

set_option Elab.async false
set_option linter.all false
set_option maxRecDepth 100000
set_option maxHeartbeats 4000000
set_option pp.maxSteps 150
set_option pp.deepTerms.threshold 6
namespace Law
open PySem L2
section
variable {P : Program} {w : World} {K : PySem.W.Frag} {mg : Str → Option Value} {base : Heap} {C Cu Ci Ct : Addr}
structure Oc (P : Program) (w : World) (K : PySem.W.Frag) (mg : Str → Option Value) (base : Heap) (C : Addr) : Prop where
  Choices0 : HasC P w K mg base CX0 1 C "Choices" ["self"] [] (spCInit C)
theorem Rows.but {H H' : Hp} : ∀ {ts : List Addr} {rs : List Row}, (∀ b o, H b = some o → H' b = some o) → Rows H ts rs → Rows H' ts rs
  | _, _, s, r => r.same s
theorem ok_cmade {f : Addr} {fd : FuncData} (F : Fun K "made" "Choices.made" s_cmade f fd) (T : Txt4 P w K mg C Cu Ci Ct) (O : Oc P w K mg base C) : FnOk P w K mg base CX0 3 f fd ["cls", "rows", "given"] (spMade C) := by
  refine F.ok sc_cmade (fun vs H Q E h => ?_) (fun cdv A outer s H vs Q E hr h => ?_)
  · obtain ⟨te, rows, g, rfl, _⟩ := h
    rfl
  obtain ⟨te, rows, g, rfl, ⟨ts, hte, hR⟩, hlen, k⟩ := h
  refine ⟨_, (pss_cons (ps_set (i := 3) sc_cmade.nd rfl (Or.inl rfl) (pe_makeV (i := 0) O.Choices0 hr rfl (by first | exact Or.inl rfl | exact Or.inr rfl | rfl) pass0S))
  (pss_cons (ps_fld (pv 3) (pe_callTy call_tuple_of (by rfl) T.n_tuple (by decide +kernel) (pa_cons (pv 1) pa_nil)) rfl)
  (pss_cons (ps_fld (pv 3) (pe_callTy call_tupleF (by rfl) T.n_tuple (by decide +kernel) (pa_cons (pe_lc (own := [("name", 4), ("many", 5), ("number", 6)]) (g := gTup K 3 (gCons (gName 4) (gCons (gName 5) (gCons (gName 6) gNil)))) (tt := tYes) (by rfl) sc_cmade.nd (pi_tup (pv 1)) (blkOk_by (own := [("name", 4), ("many", 5), ("number", 6)]) (N := ["cls", "rows", "given", "found", "name", "many", "number"]) (sc := defScope s_cmade) (by decide +kernel)) (fun _ _ _ _ _ => (pg_tup rfl (pgs_cons (pg_name (i := 4) sc_cmade.nd rfl (Or.inl rfl)) (pgs_cons (pg_name (i := 5) sc_cmade.nd rfl (Or.inl rfl)) (pgs_cons (pg_name (i := 6) sc_cmade.nd rfl (Or.inl rfl)) pgs_nil))))) (fun _ _ _ _ _ => pts_nil) (fun _ _ _ _ _ => (pv 4))) pa_nil)) rfl)
  (pss_cons (ps_fld (pv 3) (pv 2) rfl)
  (pss_one (ps_ret (pv 3))))))), ?_⟩
  have l1 : (2000 : Nat) ≤ sizeLine := by decide
  refine ⟨rfl, fun x dx nx nd nz => ⟨x, dx, rfl, upd_same, fun e0 n0 H1 ne0 nn0 nn but hx1 he0 hn0 => ⟨rfl, ?_⟩⟩⟩
  have s1 : Same H H1 := fun b o e => but b o (ne_of_none e nx) (by rw [upd_ne (ne_of_none e nx), upd_ne (ne_of_none e nd)]; exact e)
  refine ⟨_, rfl, te, _, rfl, .inr ⟨SqT.of (s1 _ _ hte), _, rfl, x, C, dx, _, rfl, hx1, T.cl, T.nE, (by show 3 < 1000; decide), ?_⟩⟩
  rw [putE]
  have s2 : Same H (upd H1 x (.ins C dx (cf te n0 0))) := fun b o e => by rw [upd_ne (ne_of_none e nx)]; exact s1 b o e
  have hx2 := upd_same (H := H1) (a := x) (o := .ins C dx (cf te n0 0))
  generalize upd H1 x (.ins C dx (cf te n0 0)) = H2 at s2 hx2 ⊢
  have hl : ts.length = rows.length := hR.len
  refine ⟨_, rfl, te, rfl, ⟨_, SqT.of (s2 _ _ hte)⟩, fun D nD => lc_tup (xs := ts.map V.ref) (fun i H3 => H3 = upd H2 D (.lst ((rows.take i).map fun r => V.str r.1))) (by simp) (fun i H3 _ e => by subst e; exact SqT.of (sNew nD _ _ (s2 _ _ hte))) ?_ ?_⟩
  · rintro i y H3 hy rfl
    rw [List.getElem?_map] at hy
    obtain ⟨t, ht, rfl⟩ : ∃ t, ts[i]? = some t ∧ y = V.ref t := by
      cases e : ts[i]? with
      | none => rw [e] at hy; cases hy
      | some t => rw [e] at hy; exact ⟨t, rfl, (Option.some.inj hy).symm⟩
    obtain ⟨rw_, hr1, hr2⟩ := hR.at ht
    refine ⟨t, _, rfl, SqT.of (sNew nD _ _ (s2 _ _ hr2)), rfl, _, _, rfl, _, _, rfl, _, _, rfl, rfl, rfl, ?_⟩
    simp only [tYes, if_true]
    refine ⟨_, rfl, _, upd_same, ?_, ?_⟩
    · rw [List.length_map, List.length_take]
      omega
    · rw [upd_upd, List.take_succ, hr1, List.map_append]
      rfl
  rintro _ rfl
  have et : rows.take (ts.map V.ref).length = rows := by rw [List.length_map, hl]; exact List.take_of_length_le (Nat.le_refl _)
  rw [et]
  refine ⟨D, _, rfl, SqL.of upd_same, fun l o nl od => ⟨_, rfl, x, C, dx, _, rfl, sNew nl _ _ (sNew nD _ _ hx2), T.cl, T.nN, (by show 3 < 1000; decide), ?_⟩⟩
  rw [putN]
  refine ⟨_, rfl, _, rfl, x, C, dx, _, rfl, upd_same, T.cl, T.nG, (by show 3 < 1000; decide), ?_⟩
  rw [putG, upd_upd]
  refine ⟨_, rfl, ?_⟩
  have nl2 : H2 l = none := (sNew nD).free nl
  have s3 : Same H (upd (upd (upd H2 D (.lst (rows.map fun r => V.str r.1))) l (.frz o (.tup (rows.map fun r => V.str r.1)))) x (.ins C dx (cf te l g))) := fun b o' e => by
    rw [upd_ne (ne_of_none e nx)]
    exact sNew nl _ _ (sNew nD _ _ (s2 b o' e))
  have lx : l ≠ x := fun z => by subst z; rw [hx2] at nl2; cases nl2
  exact k x _ s3 nx ⟨dx, te, l, upd_same, ⟨ts, s3 _ _ hte, hR.same s3⟩, .inr ⟨o, by rw [upd_ne lx, upd_same], od⟩⟩
end
end Law

set_option Elab.async false
set_option linter.all false
set_option maxRecDepth 100000
set_option maxHeartbeats 4000000
set_option pp.maxSteps 150
set_option pp.deepTerms.threshold 6
namespace Law
open PySem L2
/-! ### rows as data -/
def encR (r : Row) : PyData := .tuple [.str r.1, .int r.2.1, .int r.2.2]
def encs (rows : List Row) : PyData := .tuple (rows.map encR)
def RowsOk (rows : List Row) : Prop := rows.length ≤ 1000 ∧ ∀ r ∈ rows, PyData.strOk r.1 = true
theorem enc_dp {K : PySem.W.Frag} {H : Hp} : ∀ {ts : List Addr} {rows : List Row}, Rows H ts rows → DpAll K H (ts.map V.ref) (rows.map encR)
  | _, _, .nil => .nil
  | _, _, .cons h r => .cons (.tup (SqT.of h) (.cons (.str _) (.cons (.int _) (.cons (.int _) .nil)))) (enc_dp r)
theorem enc_lay : ∀ {rows : List Row}, (∀ r ∈ rows, PyData.strOk r.1 = true) → PyData.canLayAll0 (rows.map encR) = true
  | [], _ => rfl
  | r :: rows, h => by
    have h1 := h r List.mem_cons_self
    have h2 := enc_lay (rows := rows) fun x hx => h x (List.mem_cons_of_mem _ hx)
    simp only [List.map_cons, PyData.canLayAll0, encR, PyData.canLay0, h1, h2, Bool.and_self]
theorem enc_depth : ∀ {rows : List Row}, PyData.depthAll (rows.map encR) ≤ 1
  | [] => Nat.zero_le _
  | r :: rows => by
    have := enc_depth (rows := rows)
    simp only [List.map_cons, PyData.depthAll, encR, PyData.depth]
    omega
theorem enc_shaped {rows : List Row} (h : RowsOk rows) : SeqAt.shaped (encs rows) = true := by
  unfold SeqAt.shaped encs
  rw [Bool.and_eq_true]
  refine ⟨by simp only [PyData.canLay0, enc_lay h.2], decide_eq_true ?_⟩
  have := enc_depth (rows := rows)
  simp only [PyData.depth]
  omega
theorem enc_eq : ∀ {a b : List Row}, PyData.eqvAll (a.map encR) (b.map encR) = decide (a = b)
  | [], [] => rfl
  | [], _ :: _ => rfl
  | _ :: _, [] => rfl
  | r :: a, q :: b => by
    have ih := enc_eq (a := a) (b := b)
    rw [List.map_cons, List.map_cons, PyData.eqvAll, ih]
    obtain ⟨r1, r2, r3⟩ := r
    obtain ⟨q1, q2, q3⟩ := q
    simp only [encR, PyData.eqv, PyData.eqvAll, Bool.and_true]
    rw [Bool.eq_iff_iff]
    simp
def spEqC (K : PySem.W.Frag) (C : Addr) : Sp := fun vs H Q _ => ∃ (p : Addr) (rows : List Row) (g : Int) (y : V), vs = [.ref p, y] ∧ ChAt C H p rows g ∧ RowsOk rows ∧
  ((∃ (q : Addr) (rows' : List Row) (g' : Int), y = .ref q ∧ ChAt C H q rows' g' ∧ RowsOk rows' ∧ Q (.bl (decide (rows = rows'))) H) ∨ (∃ t, TyX K H y t ∧ PySem.W.kitOne K t (.ref C) = some false ∧ Q (.bl false) H))
def manyAt (j : Nat) (rows : List Row) : V := .int ((rows[j]?.map (·.2.1)).getD 0)
def numAt (j : Nat) (rows : List Row) : V := .int ((rows[j]?.map (·.2.2)).getD 0)
section
variable {P : Program} {w : World} {K : PySem.W.Frag} {mg : Str → Option Value} {base : Heap} {C Cu Ci Ct : Addr}
structure Op (P : Program) (w : World) (K : PySem.W.Frag) (mg : Str → Option Value) (base : Heap) (C Cu : Addr) : Prop where
  m_place : HasM P w K mg base (L2.CX P w) 2 C "place" ["self", "name"] (spAt C Cu fun j _ => .int j)
theorem ok_ceq (D : DefM K C "__eq__" "Choices.__eq__" s_ceq) (T : Txt4 P w K mg C Cu Ci Ct) : HasM P w K mg base CX0 1 C "__eq__" ["self", "other"] (spEqC K C) := by
  obtain ⟨f, fd, F, hs, hf⟩ := D
  refine ⟨f, fd, F.ok sc_ceq (fun vs H Q E h => ?_) (fun cdv A outer s H vs Q E hr h => ?_), hs, hf, F.kp, F.binds fun _ _ _ _ _ _ us hl => match us, hl with | [_, _], _ => rfl⟩
  · obtain ⟨p, rows, g, y, rfl, _⟩ := h
    rfl
  obtain ⟨p, rows, g, y, rfl, ⟨dx, te, tn, hp, ⟨ts, ht, hR⟩, hn⟩, ok1, h⟩ := h
  refine ⟨_, (pss_one (ps_ret (pe_and (pe_callB call_isi (by rfl) T.n_isinstance (by decide +kernel) (pa_cons (pv 1) (pa_cons (pe_glob (v := .ref C) (by rfl) T.m_Choices rfl) pa_nil))) (pe_one (pe_cmpR (op_eqD hr.units) (pe_fld (pv 0) rfl) (pe_fld (pv 1) rfl) (nomark _)))))), ?_⟩
  rcases h with ⟨q, rows', g', rfl, ⟨dy, te', tn', hq, ⟨ts', ht', hR'⟩, hn'⟩, ok2, k⟩ | ⟨t, ty, kt, k⟩
  · refine ⟨_, rfl, _, _, _, _, _, rfl, .own C, .base (.ins hq T.cl T.ca T.cb T.cc T.cd), T.kC, true, rfl, iteT ?_⟩
    refine ⟨_, rfl, p, C, dx, _, _, rfl, hp, T.cl, T.nE, cf_e, _, rfl, q, C, dy, _, _, rfl, hq, T.cl, T.nE, cf_e, encs rows, encs rows', .tup (SqT.of ht) (enc_dp hR), .tup (SqT.of ht') (enc_dp hR'), enc_shaped ok1, enc_shaped ok2, ?_⟩
    have e : PyData.eqv (encs rows) (encs rows') = decide (rows = rows') := by
      unfold encs
      rw [PyData.eqv]
      exact enc_eq
    rw [e]
    exact k
  · exact ⟨_, rfl, _, _, _, _, _, rfl, .own C, ty, kt, false, rfl, iteF k⟩
theorem ok_cget (D : DefM K C "__getitem__" "Choices.__getitem__" s_cget) (T : Txt4 P w K mg C Cu Ci Ct) (O : Op P w K mg base C Cu) : HasM P w K mg base (L2.CX P w) 3 C "__getitem__" ["self", "name"] (spAt C Cu manyAt) := by
  obtain ⟨f, fd, F, hs, hf⟩ := D
  refine ⟨f, fd, F.okX sc_cget (fun vs H Q E h => ?_) (fun cdv A outer s H vs Q E hr h => ?_), hs, hf, F.kp, F.binds fun _ _ _ _ _ _ us hl => match us, hl with | [_, _], _ => rfl⟩
  · obtain ⟨p, rows, g, z, rfl, _⟩ := h
    rfl
  obtain ⟨p, rows, g, z, rfl, ⟨dx, te, tn, hp, ⟨ts, ht, hR⟩, hn⟩, hl, kE, k⟩ := h
  refine ⟨_, (pss_one (ps_ret (pe_ix ix_tup (pe_ix ix_tup (pe_fld (pv 0) rfl) (pe_methW (pv 0) T.cl O.m_place hr (fun σ => passAt (takes_of rfl rfl rfl rfl) σ) (pa_cons (pv 1) pa_nil)) (fun _ _ => rfl)) pe_int (fun _ _ => rfl)))), ?_⟩
  refine ⟨_, rfl, p, C, dx, _, _, rfl, hp, T.cl, T.nE, cf_e, _, rfl, p, dx, _, rfl, hp, cf_no (by decide +kernel) (by decide +kernel) (by decide +kernel), _, rfl, p, rows, g, z, rfl, ⟨dx, te, tn, hp, ⟨ts, ht, hR⟩, hn⟩, hl, kE, fun j h1 h2 => ?_⟩
  obtain ⟨r, hr1⟩ : ∃ r, rows[j]? = some r := by
    cases e : rows[j]? with
    | none => rw [e] at h1; cases h1
    | some r => exact ⟨r, rfl⟩
  obtain ⟨t, htj, hrow⟩ := hR.get hr1
  refine ⟨te, _, _, .ref t, rfl, rfl, SqT.of ht, atI_nat (by rw [List.getElem?_map, htj]; rfl), t, _, 1, _, rfl, rfl, SqT.of hrow, rfl, ?_⟩
  have q := k j h1 h2
  unfold manyAt at q
  rw [hr1] at q
  exact q
theorem ok_cnumber (D : DefM K C "number" "Choices.number" s_cnumber) (T : Txt4 P w K mg C Cu Ci Ct) (O : Op P w K mg base C Cu) : HasM P w K mg base (L2.CX P w) 3 C "number" ["self", "name"] (spAt C Cu numAt) := by
  obtain ⟨f, fd, F, hs, hf⟩ := D
  refine ⟨f, fd, F.okX sc_cnumber (fun vs H Q E h => ?_) (fun cdv A outer s H vs Q E hr h => ?_), hs, hf, F.kp, F.binds fun _ _ _ _ _ _ us hl => match us, hl with | [_, _], _ => rfl⟩
  · obtain ⟨p, rows, g, z, rfl, _⟩ := h
    rfl
  obtain ⟨p, rows, g, z, rfl, ⟨dx, te, tn, hp, ⟨ts, ht, hR⟩, hn⟩, hl, kE, k⟩ := h
  refine ⟨_, (pss_one (ps_ret (pe_ix ix_tup (pe_ix ix_tup (pe_fld (pv 0) rfl) (pe_methW (pv 0) T.cl O.m_place hr (fun σ => passAt (takes_of rfl rfl rfl rfl) σ) (pa_cons (pv 1) pa_nil)) (fun _ _ => rfl)) pe_int (fun _ _ => rfl)))), ?_⟩
  refine ⟨_, rfl, p, C, dx, _, _, rfl, hp, T.cl, T.nE, cf_e, _, rfl, p, dx, _, rfl, hp, cf_no (by decide +kernel) (by decide +kernel) (by decide +kernel), _, rfl, p, rows, g, z, rfl, ⟨dx, te, tn, hp, ⟨ts, ht, hR⟩, hn⟩, hl, kE, fun j h1 h2 => ?_⟩
  obtain ⟨r, hr1⟩ : ∃ r, rows[j]? = some r := by
    cases e : rows[j]? with
    | none => rw [e] at h1; cases h1
    | some r => exact ⟨r, rfl⟩
  obtain ⟨t, htj, hrow⟩ := hR.get hr1
  refine ⟨te, _, _, .ref t, rfl, rfl, SqT.of ht, atI_nat (by rw [List.getElem?_map, htj]; rfl), t, _, 2, _, rfl, rfl, SqT.of hrow, rfl, ?_⟩
  have q := k j h1 h2
  unfold numAt at q
  rw [hr1] at q
  exact q
end
end Law

set_option Elab.async false
set_option linter.all false
set_option maxRecDepth 100000
set_option maxHeartbeats 4000000
set_option pp.maxSteps 150
set_option pp.deepTerms.threshold 6
namespace Law
open PySem L2
abbrev s_number : Stmt := top 12
theorem sc_number : FnScope ["text", "most", "figures", "sign"] ["text", "most"] (defScope s_number) := ⟨rfl, rfl, rfl, by decide +kernel, rfl, by decide +kernel, by decide +kernel⟩
abbrev s_opened : Stmt := top 11
theorem sc_opened : FnScope ["text", "deed", "point", "row"] ["text"] (defScope s_opened) := ⟨rfl, rfl, rfl, by decide +kernel, rfl, by decide +kernel, by decide +kernel⟩
theorem seq_asg {te : TE} {g : TG} {r : TS} {D : Ends} {σ : St} {H1 : Hp} (Z : St → Hp → Prop) (hZ : ∀ σ' H', Z σ' H' → r D σ' H') (h : (∀ σ' H', Z σ' H' → r D σ' H') → te σ H1 fun x H2 => g x σ H2 (r D)) : tSeq (tAsg te g) r D σ H1 := h hZ
def isFig (c : Nat) : Bool := decide (c ∈ FIGS.cps.toList)
def fig (z : Str) : Str := if decide (V.str (cutS z none (some 1)) = V.str "-") = true then cutS z (some 1) none else z
def numOk (z : Str) (m : Int) : Bool := decide (1 ≤ (fig z).length) && decide (((fig z).length : Int) ≤ m) && (fig z).cps.toList.all isFig && !(decide ((fig z).cps.getD 0 0 = 48) && decide (z ≠ "0"))
theorem cutS_len {z : Str} {a b : Option Int} : (cutS z a b).length ≤ z.length := by
  unfold cutS
  show (List.toArray _).size ≤ _
  rw [List.size_toArray, List.length_take, List.length_drop]
  have : z.cps.toList.length = z.length := Array.length_toList
  omega
theorem fig_len {z : Str} : (fig z).length ≤ z.length := by
  unfold fig
  split
  · exact cutS_len
  · exact Nat.le_refl _
structure Tn2 (mg : Str → Option Value) (tL tF tM : Tok) : Prop extends Tn mg tL tF tM where
  n_int : mg "int" = none
/-- the number in a text, or none -/
def spNum : Sp := fun vs H Q _ => ∃ (z : Str) (m : Int), vs = [.str z, .int m] ∧ z.length ≤ 600 ∧ (numOk z m = true → ∃ n, PySem.intText? z = some n) ∧ (numOk z m = false → ∀ H', Same H H' → Q .non H') ∧ (numOk z m = true → ∀ H' n, Same H H' → PySem.intText? z = some n → Q (.int n) H')
section
variable {P : Program} {w : World} {K : PySem.W.Frag} {mg : Str → Option Value} {base : Heap} {tL tF tM : Tok}
theorem ok_number {f : Addr} {fd : FuncData} {dvs : List V} (F : FunD K "number_in" "number_in" (defArgs s_number) (defBody s_number) (defScope s_number) dvs [] f fd) (T : Tn mg tL tF tM) (ni : mg "int" = none) : FnOk P w K mg base CX0 1 f fd ["text", "most"] spNum := by
  refine F.ok sc_number (fun vs H Q E h => ?_) (fun cdv A outer s H vs Q E hr h => ?_)
  · obtain ⟨z, m, rfl, _⟩ := h
    rfl
  obtain ⟨z, m, rfl, hz, hv, k0, k1⟩ := h
  have T := (⟨T, ni⟩ : Tn2 mg tL tF tM)
  refine ⟨_, (pss_cons (ps_set (i := 2) sc_number.nd rfl (Or.inl rfl) (pe_ifExp (pt_cmpR op_eq (pe_slice sl_str (pv 0) po_none (po_some pe_int)) pe_str (nomark _)) (pe_slice sl_str (pv 0) (po_some pe_int) po_none) (pv 0)))
  (pss_cons (ps_if (PW.pt (pw_or (pt_not (pt_chain op_le op_le pe_int (pe_callB call_len_str (by rfl) T.n_len (by decide +kernel) (pa_cons (pv 2) pa_nil)) (pv 1))) (pw_or1 (pt_not (pt_val (pe_callB (cr_all rfl) (by rfl) T.n_all (by decide +kernel) (pa_cons (pe_lc (own := [("sign", 3)]) (g := gName 3) (tt := tYes) (by rfl) sc_number.nd (pi_str (pv 2)) (blkOk_by (own := [("sign", 3)]) (N := ["text", "most", "figures", "sign"]) (sc := defScope s_number) (by decide +kernel)) (fun _ _ _ _ _ => (pg_name (i := 3) sc_number.nd rfl (Or.inl rfl))) (fun _ _ _ _ _ => pts_nil) (fun _ _ _ _ _ => (pe_cmpR op_in_sign (pv 3) (pe_glob (v := .str FIGS) (by rfl) T.m_FIGURES ⟨_, rfl⟩) (by rfl)))) pa_nil)))))))
  (pss_one (ps_ret pe_non))
  pss_nil)
  (pss_cons (ps_if (PW.pt (pw_and (pt_cmpR op_eq (pe_ix ix_str (pv 2) pe_int (fun _ _ => rfl)) pe_str (nomark _)) (pw_and1 (pt_cmpR op_ne (pv 0) pe_str (nomark _)))))
  (pss_one (ps_ret pe_non))
  pss_nil)
  (pss_one (ps_ret (pe_callTy call_int_str (by rfl) T.n_int (by decide +kernel) (pa_cons (pv 0) pa_nil))))))), ?_⟩
  have l1 : (2000 : Nat) ≤ sizeLine := by decide
  refine seq_asg (fun σ' H' => H' = H ∧ σ' = [some (.str z), some (.int m), some (.str (fig z)), none]) (fun σ' H' e => ?_) fun rest => ?_
  rotate_left
  · refine ⟨_, rfl, _, rfl, z, rfl, by omega, rfl, _, rfl, ite2 (fun c => ?_) (fun c => ?_)⟩
    · refine ⟨_, rfl, _, rfl, z, rfl, by omega, rest _ _ ⟨rfl, ?_⟩⟩
      have e : fig z = cutS z (some 1) none := by unfold fig; rw [if_pos c]
      rw [e]
      rfl
    · refine ⟨_, rfl, rest _ _ ⟨rfl, ?_⟩⟩
      have e : fig z = z := by unfold fig; rw [if_neg c]
      rw [e]
      rfl
  obtain ⟨rfl, rfl⟩ := e
  have hF : (fig z).length ≤ 600 := Nat.le_trans fig_len hz
  unfold numOk at hv k0 k1
  revert hv k0 k1
  generalize fig z = y at hF ⊢
  intro hv k0 k1
  refine ⟨_, rfl, y, rfl, by omega, _, _, rfl, rfl, _, rfl, ite2 (fun c1 => ?_) (fun c1 => ?_)⟩
  rotate_left
  · have h1 : ¬ 1 ≤ y.length := fun q => c1 (decide_eq_true (by omega))
    exact ⟨_, rfl, iteT2 rfl (k0 (by simp [h1]) _ (Same.refl _))⟩
  have h1 : 1 ≤ y.length := by have := of_decide_eq_true c1; omega
  refine ⟨_, rfl, _, _, rfl, rfl, _, rfl, ite2 (fun c2 => ?_) (fun c2 => ?_)⟩
  · have h2 : ¬ (y.length : Int) ≤ m := fun q => by
      rw [decide_eq_true q] at c2
      cases c2
    exact k0 (by simp [h2]) _ (Same.refl _)
  have h2 : (y.length : Int) ≤ m := by
    by_cases q : (y.length : Int) ≤ m
    · exact q
    · exact absurd (by rw [decide_eq_false q]; rfl) c2
  refine ⟨_, rfl, y, rfl, fun D nD => lc_it walk_str (fun i H1 => H1 = upd H' D (.lst ((y.cps.toList.take i).map fun c => V.bl (isFig c)))) rfl (fun _ _ _ _ => trivial) ?_ ?_⟩
  · rintro i x H1 H1' hi rfl ⟨rfl, c, hc, rfl⟩
    refine ⟨rfl, ?_⟩
    simp only [tYes, if_true]
    have hc' : y.cps.toList[i]? = some c := by rw [Array.getElem?_toList]; exact hc
    refine ⟨_, rfl, _, _, rfl, rfl, _, upd_same, ?_, ?_⟩
    · rw [List.length_map, List.length_take]
      have : y.cps.toList.length = y.length := Array.length_toList
      omega
    · rw [upd_upd, List.take_succ, hc', List.map_append]
      rfl
  rintro _ rfl
  have eb : (y.cps.toList.take y.cps.size).map (fun c => V.bl (isFig c)) = (y.cps.toList.map isFig).map V.bl := by
    rw [List.take_of_length_le (by simp), List.map_map]
    rfl
  rw [eb]
  have sD := sNew (o := .lst ((y.cps.toList.map isFig).map V.bl)) nD
  have hD := upd_same (H := H') (a := D) (o := .lst ((y.cps.toList.map isFig).map V.bl))
  generalize upd H' D (.lst ((y.cps.toList.map isFig).map V.bl)) = H2 at sD hD ⊢
  have ea : (y.cps.toList.map isFig).all id = y.cps.toList.all isFig := by rw [List.all_map]; rfl
  refine ⟨D, _, rfl, SqL.of hD, _, rfl, ite2 (fun c3 => ?_) (fun c3 => ?_)⟩
  · rw [ea] at c3
    have c3' : y.cps.toList.all isFig = false := by simpa using c3
    exact k0 (by rw [c3']; simp) _ sD
  rw [ea] at c3
  have c3' : y.cps.toList.all isFig = true := by simpa using c3
  rw [c3', decide_eq_true h1, decide_eq_true h2] at hv k0 k1
  simp only [Bool.and_self, Bool.true_and] at hv k0 k1
  have hc : atI y.cps.toList 0 = some (y.cps.getD 0 0) := by
    refine atI_nat (j := 0) ?_
    have q : 0 < y.cps.size := h1
    simp [q]
  have fin : (!(decide (y.cps.getD 0 0 = 48) && decide (z ≠ "0"))) = true → tRet (tCB (fun xs H Q => ∃ a n, xs = [.str a] ∧ PySem.intText? a = some n ∧ a.length ≤ 640 ∧ Q (.int n) H) (tCons (tVar 0) tNil)) { nx := fun _ H' => Q .non H', rt := Q } [some (.str z), some (.int m), some (.str y), none] H2 := fun e => by
    obtain ⟨n, hn⟩ := hv e
    exact ⟨_, rfl, z, n, rfl, hn, by omega, k1 e _ n sD hn⟩
  refine ⟨_, rfl, _, _, _, rfl, rfl, by omega, hc, rfl, _, rfl, ite2 (fun c4 => ?_) (fun c4 => ?_)⟩
  · have h4 : y.cps.getD 0 0 = 48 := by
      have := V.str.inj (of_decide_eq_true c4)
      have e2 : (⟨#[y.cps.getD 0 0]⟩ : Str) = ⟨#[48]⟩ := this
      injection e2 with e3
      simpa using e3
    refine ⟨_, rfl, rfl, _, rfl, ite2 (fun c5 => ?_) (fun c5 => ?_)⟩
    · have h5 : z ≠ "0" := fun q => by
        rw [decide_eq_true (by rw [q])] at c5
        cases c5
      exact k0 (by rw [decide_eq_true h4, decide_eq_true h5]; rfl) _ sD
    · have h5 : ¬ z ≠ "0" := fun q => c5 (by rw [decide_eq_false (fun e => q (V.str.inj e))]; rfl)
      exact fin (by rw [decide_eq_false h5]; simp)
  · have h4 : ¬ y.cps.getD 0 0 = 48 := fun q => c4 (decide_eq_true (by rw [q]; rfl))
    exact fin (by rw [decide_eq_false h4]; rfl)
end
end Law

set_option Elab.async false
set_option linter.all false
set_option maxRecDepth 100000
set_option maxHeartbeats 4000000
set_option pp.maxSteps 150
set_option pp.deepTerms.threshold 6
namespace Law
open PySem L2
def isOp (z : Str) : Bool := decide ((Txt.partition z ".").2.1 ≠ "") && (isNm (Txt.partition z ".").1 && (numOk (Txt.partition z ".").2.2 2 && decide ((Txt.partition z ".").2.2.cps.getD 0 0 ≠ 45)))
def spOpened : Sp := fun vs H Q _ => ∃ z : Str, vs = [.str z] ∧ z.length ≤ 600 ∧ (Txt.partition z ".").1.length ≤ 600 ∧ (Txt.partition z ".").2.2.length ≤ 600 ∧ (numOk (Txt.partition z ".").2.2 2 = true → 1 ≤ (Txt.partition z ".").2.2.length ∧ ∃ n, PySem.intText? (Txt.partition z ".").2.2 = some n) ∧ ∀ H', Same H H' → Q (.bl (isOp z)) H'
section
variable {P : Program} {w : World} {K : PySem.W.Frag} {mg : Str → Option Value} {base : Heap}
structure Od (P : Program) (w : World) (K : PySem.W.Frag) (mg : Str → Option Value) (base : Heap) : Prop where
  is_name : HasFn P w K mg base CX0 1 "is_name" ["value"] (spName K)
  number_in : HasFn P w K mg base CX0 1 "number_in" ["text", "most"] spNum
theorem ok_opened (D : Def K mg "is_opened_name" s_opened) (O : Od P w K mg base) : HasFn P w K mg base CX0 2 "is_opened_name" ["text"] spOpened := by
  obtain ⟨f, fd, F, hm⟩ := D
  refine ⟨f, fd, F.ok sc_opened (fun vs H Q E h => ?_) (fun cdv A outer s H vs Q E hr h => ?_), hm, F.kp, F.binds fun _ _ _ _ _ _ us hl => match us, hl with | [_], _ => rfl⟩
  · obtain ⟨z, rfl, _⟩ := h
    rfl
  obtain ⟨z, rfl, hz, h1, h3, hv, k⟩ := h
  refine ⟨_, (pss_cons (ps_asg (pe_partition (pv 0) pe_str) (pg_tup rfl (pgs_cons (pg_name (i := 1) sc_opened.nd rfl (Or.inl rfl)) (pgs_cons (pg_name (i := 2) sc_opened.nd rfl (Or.inl rfl)) (pgs_cons (pg_name (i := 3) sc_opened.nd rfl (Or.inl rfl)) pgs_nil)))))
  (pss_one (ps_ret (pe_and (pe_cmpR op_ne (pv 2) pe_str (nomark _)) (pe_and (pe_callO O.is_name hr (by rfl) pass0 (pa_cons (pv 1) pa_nil)) (pe_and (pe_cmpR op_notN (pe_callO O.number_in hr (by rfl) pass0 (pa_cons (pv 3) (pa_cons pe_int pa_nil))) pe_non (nomark _)) (pe_one (pe_cmpR op_ne (pe_ix ix_str (pv 3) pe_int (fun _ _ => rfl)) pe_str (nomark _))))))))), ?_⟩
  have l1 : (2000 : Nat) ≤ sizeLine := by decide
  refine ⟨_, rfl, ⟨_, rfl⟩, z, ".", rfl, rfl, by decide +kernel, by omega, fun q nq => ⟨q, _, rfl, .of upd_same, rfl, _, _, rfl, _, _, rfl, _, _, rfl, rfl, ?_⟩⟩
  have sq := sNew (o := .tup [.str (Txt.partition z ".").1, .str (Txt.partition z ".").2.1, .str (Txt.partition z ".").2.2]) nq
  generalize upd H q _ = H1 at sq ⊢
  unfold isOp at k
  revert h1 h3 hv k
  generalize (Txt.partition z ".").1 = dd
  generalize (Txt.partition z ".").2.1 = pp
  generalize (Txt.partition z ".").2.2 = rr
  intro h1 h3 hv k
  refine ⟨_, rfl, rfl, _, rfl, ite2 (fun c => ?_) (fun c => ?_)⟩
  rotate_left
  · have e : pp = "" := by
      by_cases q : pp = ""
      · exact q
      · exact absurd (by rw [decide_eq_false (fun e => q (V.str.inj e))]; rfl) c
    have := k H1 sq
    rw [decide_eq_false (by simp [e]), Bool.false_and] at this
    exact this
  have e : pp ≠ "" := fun q => by
    rw [decide_eq_true (by rw [q])] at c
    cases c
  rw [decide_eq_true e, Bool.true_and] at k
  refine ⟨_, rfl, .str dd, rfl, .inl ⟨dd, rfl, by omega, fun H2 s2 => ⟨_, rfl, ite2 (fun c2 => ?_) (fun c2 => ?_)⟩⟩⟩
  rotate_left
  · have e2 : isNm dd = false := eq_false_of_ne_true c2
    have := k H2 (sq.trans s2)
    rw [e2, Bool.false_and] at this
    exact this
  rw [c2, Bool.true_and] at k
  refine ⟨_, rfl, rr, 2, rfl, h3, fun e3 => (hv e3).2, fun e3 H3 s3 => ?_, fun e3 H3 n s3 hn => ?_⟩
  · have := k H3 ((sq.trans s2).trans s3)
    rw [e3, Bool.false_and] at this
    exact ⟨rfl, _, rfl, iteF2 rfl this⟩
  · rw [e3, Bool.true_and] at k
    have hc : atI rr.cps.toList 0 = some (rr.cps.getD 0 0) := by
      refine atI_nat (j := 0) ?_
      have q : 0 < rr.cps.size := (hv e3).1
      simp [q]
    refine ⟨rfl, _, rfl, iteT2 rfl ⟨_, rfl, _, _, _, rfl, rfl, by omega, hc, rfl, ?_⟩⟩
    have e4 : (!decide (V.str ⟨#[rr.cps.getD 0 0]⟩ = V.str "-")) = decide (rr.cps.getD 0 0 ≠ 45) := by
      by_cases q : rr.cps.getD 0 0 = 45
      · rw [q]
        rfl
      · rw [decide_eq_true q, decide_eq_false]
        · rfl
        · intro e
          have e2 : (⟨#[rr.cps.getD 0 0]⟩ : Str) = ⟨#[45]⟩ := V.str.inj e
          injection e2 with e3
          exact q (by simpa using e3)
    rw [e4]
    exact k H3 ((sq.trans s2).trans s3)
end
end Law

set_option Elab.async false
set_option linter.all false
set_option maxRecDepth 100000
set_option maxHeartbeats 4000000
set_option pp.maxSteps 150
set_option pp.deepTerms.threshold 6
namespace Law
open PySem L2
def spWithout (C Cu : Addr) : Sp := fun vs H Q E => ∃ (p : Addr) (rows : List Row) (g : Int) (z : Str), vs = [.ref p, .str z] ∧ ChAt C H p rows g ∧ rows.length ≤ 900 ∧
  (z ∉ rows.map (·.1) → ∀ d, H d = none → E (.ref Cu) (some d) (upd H d (.xd [("name", .str z)]))) ∧ ∀ j, rows[j]?.map (·.1) = some z → (∀ m, m < j → rows[m]?.map (·.1) ≠ some z) → ∀ q H', Same H H' → H q = none → ChAt C H' q (rows.eraseIdx j) g → Q (.ref q) H'
/-- what is_opened_name asks of a text -/
def OpPre (z : Str) : Prop := z.length ≤ 600 ∧ (Txt.partition z ".").1.length ≤ 600 ∧ (Txt.partition z ".").2.2.length ≤ 600 ∧ (numOk (Txt.partition z ".").2.2 2 = true → 1 ≤ (Txt.partition z ".").2.2.length ∧ ∃ n, PySem.intText? (Txt.partition z ".").2.2 = some n)
def spPut (C Ci Ct : Addr) : Sp := fun vs H Q E => ∃ (p : Addr) (rows : List Row) (g m : Int) (z : Str), vs = [.ref p, .str z, .int m] ∧ ChAt C H p rows g ∧ rows.length ≤ 900 ∧ OpPre z ∧
  ((isNm z || isOp z) = false → ∀ H' d, Same H H' → H' d = none → E (.ref Ci) (some d) (upd H' d (.xd [("name", .str z)]))) ∧
  ((isNm z || isOp z) = true → z ∈ rows.map (·.1) → ∀ H' d, Same H H' → H' d = none → E (.ref Ct) (some d) (upd H' d (.xd [("name", .str z)]))) ∧
  ((isNm z || isOp z) = true → z ∉ rows.map (·.1) → ∀ q H', Same H H' → H q = none → ChAt C H' q (rows ++ [(z, m, g)]) (g + 1) → Q (.ref q) H')
theorem cutA {ts : List Addr} {j : Nat} (h : j ≤ ts.length) : cutV (ts.map V.ref) none (some (j : Int)) = (ts.take j).map V.ref := by
  unfold cutV
  rw [List.length_map]
  show ((ts.map V.ref).drop 0).take ((if (j : Int) < 0 then ((j : Int) + (ts.length : Int)).toNat else min (j : Int).toNat ts.length) - 0) = _
  rw [if_neg (by omega), Int.toNat_natCast, Nat.min_eq_left h, List.drop_zero, Nat.sub_zero, List.map_take]
theorem cutB {ts : List Addr} {j : Nat} (h : j ≤ ts.length) : cutV (ts.map V.ref) (some (j : Int)) none = (ts.drop j).map V.ref := by
  unfold cutV
  rw [List.length_map]
  show ((ts.map V.ref).drop (if (j : Int) < 0 then ((j : Int) + (ts.length : Int)).toNat else min (j : Int).toNat ts.length)).take (ts.length - (if (j : Int) < 0 then ((j : Int) + (ts.length : Int)).toNat else min (j : Int).toNat ts.length)) = _
  rw [if_neg (by omega), Int.toNat_natCast, Nat.min_eq_left h, ← List.map_drop]
  exact List.take_of_length_le (by rw [List.length_map, List.length_drop]; omega)
theorem notWhole1 {ts : List Addr} {j : Nat} (h : j < ts.length) : ¬ (HT.sIx (ts.map V.ref).length 0 none = 0 ∧ HT.sIx (ts.map V.ref).length (ts.map V.ref).length (some (j : Int)) = (ts.map V.ref).length) := fun ⟨_, q⟩ => by
  rw [List.length_map] at q
  have q : (if (j : Int) < 0 then ((j : Int) + (ts.length : Int)).toNat else min (j : Int).toNat ts.length) = ts.length := q
  rw [if_neg (by omega), Int.toNat_natCast] at q
  omega
theorem notWhole2 {ts : List Addr} {j : Nat} (h : j < ts.length) : ¬ (HT.sIx (ts.map V.ref).length 0 (some ((j : Int) + 1)) = 0 ∧ HT.sIx (ts.map V.ref).length (ts.map V.ref).length none = (ts.map V.ref).length) := fun ⟨q, _⟩ => by
  rw [List.length_map] at q
  have q : (if (j : Int) + 1 < 0 then ((j : Int) + 1 + (ts.length : Int)).toNat else min ((j : Int) + 1).toNat ts.length) = 0 := q
  rw [if_neg (by omega)] at q
  omega
section
variable {P : Program} {w : World} {K : PySem.W.Frag} {mg : Str → Option Value} {base : Heap} {C Cu Ci Ct : Addr}
structure Og (P : Program) (w : World) (K : PySem.W.Frag) (mg : Str → Option Value) (base : Heap) (C Cu : Addr) : Prop extends Op P w K mg base C Cu where
  m_made : HasCM P w K mg base CX0 3 C "made" ["cls", "rows", "given"] (spMade C)
  is_name : HasFn P w K mg base CX0 1 "is_name" ["value"] (spName K)
  is_opened_name : HasFn P w K mg base CX0 2 "is_opened_name" ["text"] spOpened
theorem ok_cwithout (D : DefM K C "without" "Choices.without" s_cwithout) (T : Txt4 P w K mg C Cu Ci Ct) (O : Og P w K mg base C Cu) : HasM P w K mg base (L2.CX P w) 4 C "without" ["self", "name"] (spWithout C Cu) := by
  obtain ⟨f, fd, F, hs, hf⟩ := D
  refine ⟨f, fd, F.okX sc_cwithout (fun vs H Q E h => ?_) (fun cdv A outer s H vs Q E hr h => ?_), hs, hf, F.kp, F.binds fun _ _ _ _ _ _ us hl => match us, hl with | [_, _], _ => rfl⟩
  · obtain ⟨p, rows, g, z, rfl, _⟩ := h
    rfl
  obtain ⟨p, rows, g, z, rfl, ⟨dx, te, tn, hp, ⟨ts, ht, hR⟩, hn⟩, hl, kE, k⟩ := h
  refine ⟨_, (pss_cons (ps_set (i := 2) sc_cwithout.nd rfl (Or.inl rfl) (pe_methW (pv 0) T.cl O.m_place hr (fun σ => passAt (takes_of rfl rfl rfl rfl) σ) (pa_cons (pv 1) pa_nil)))
  (pss_one (ps_ret (pe_cmO (pe_glob (v := .ref C) (by rfl) T.m_Choices rfl) O.m_made hr pass0 (pa_cons (pe_op op_catA (pe_slice sl_tupA (pe_fld (pv 0) rfl) po_none (po_some (pv 2))) (pe_slice sl_tupA (pe_fld (pv 0) rfl) (po_some (pe_op op_add (pv 2) pe_int)) po_none)) (pa_cons (pe_fld (pv 0) rfl) pa_nil)))))), ?_⟩
  have l1 : (2000 : Nat) ≤ sizeLine := by decide
  refine ⟨_, rfl, p, dx, _, rfl, hp, cf_no (by decide +kernel) (by decide +kernel) (by decide +kernel), _, rfl, p, rows, g, z, rfl, ⟨dx, te, tn, hp, ⟨ts, ht, hR⟩, hn⟩, by omega, kE, fun j h1 h2 => ?_⟩
  have hj : j < rows.length := by
    rcases Nat.lt_or_ge j rows.length with q | q
    · exact q
    · rw [List.getElem?_eq_none q] at h1; cases h1
  have hjt : j < ts.length := by rw [hR.len]; exact hj
  refine ⟨rfl, _, rfl, p, C, dx, _, _, rfl, hp, T.cl, T.nE, cf_e, _, rfl, _, rfl, te, _, rfl, SqT.of ht, fun q => absurd q (notWhole1 hjt), fun _ t1 n1 => ?_⟩
  rw [cutA (Nat.le_of_lt hjt)]
  have s1 := sNew (o := .tup ((ts.take j).map V.ref)) n1
  have e1 := upd_same (H := H) (a := t1) (o := .tup ((ts.take j).map V.ref))
  generalize upd H t1 (.tup ((ts.take j).map V.ref)) = H1 at s1 e1 ⊢
  refine ⟨_, rfl, p, C, dx, _, _, rfl, s1 _ _ hp, T.cl, T.nE, cf_e, _, rfl, _, _, rfl, rfl, _, rfl, te, _, rfl, SqT.of (s1 _ _ ht), fun q => absurd q (notWhole2 hjt), fun _ t2 n2 => ?_⟩
  have ec : cutV (ts.map V.ref) (some ((j : Int) + 1)) none = (ts.drop (j + 1)).map V.ref := cutB (j := j + 1) (by omega)
  dsimp only
  rw [ec]
  have s2 := s1.trans (sNew (o := .tup ((ts.drop (j + 1)).map V.ref)) n2)
  have e1' := sNew (o := .tup ((ts.drop (j + 1)).map V.ref)) n2 _ _ e1
  have e2 := upd_same (H := H1) (a := t2) (o := .tup ((ts.drop (j + 1)).map V.ref))
  generalize upd H1 t2 (.tup ((ts.drop (j + 1)).map V.ref)) = H2 at s2 e1' e2 ⊢
  have er : rows.eraseIdx j = rows.take j ++ rows.drop (j + 1) := List.eraseIdx_eq_take_drop_succ ..
  have hlen : (rows.eraseIdx j).length ≤ 1000 := by rw [List.length_eraseIdx]; split <;> omega
  have R2 : Rows H2 (ts.take j ++ ts.drop (j + 1)) (rows.eraseIdx j) := by
    rw [er]
    exact ((hR.same s2).take j).app ((hR.same s2).drop (j + 1))
  have lt : ts.length ≤ 900 := by rw [hR.len]; exact hl
  refine ⟨t1, t2, _, _, rfl, rfl, SqT.of e1', SqT.of e2, by rw [List.length_map, List.length_map, List.length_take, List.length_drop]; omega, fun q0 => ?_, fun q0 q1 => ?_, fun q0 q1 u nu => ?_⟩
  · have q2 : ts.take j = [] := List.map_eq_nil_iff.mp q0
    rw [q2, List.nil_append] at R2
    exact ⟨_, rfl, p, C, dx, _, _, rfl, s2 _ _ hp, T.cl, T.nG, cf_g, t2, rows.eraseIdx j, g, rfl, ⟨_, e2, R2⟩, hlen, fun q H' s nq ch => k j h1 h2 q H' (s2.trans s) (s2.free nq) ch⟩
  · have q2 : ts.drop (j + 1) = [] := List.map_eq_nil_iff.mp q1
    rw [q2, List.append_nil] at R2
    exact ⟨_, rfl, p, C, dx, _, _, rfl, s2 _ _ hp, T.cl, T.nG, cf_g, t1, rows.eraseIdx j, g, rfl, ⟨_, e1', R2⟩, hlen, fun q H' s nq ch => k j h1 h2 q H' (s2.trans s) (s2.free nq) ch⟩
  · have s3 := s2.trans (sNew (o := .tup ((ts.take j).map V.ref ++ (ts.drop (j + 1)).map V.ref)) nu)
    exact ⟨_, rfl, p, C, dx, _, _, rfl, s3 _ _ hp, T.cl, T.nG, cf_g, u, rows.eraseIdx j, g, rfl, ⟨ts.take j ++ ts.drop (j + 1), by rw [upd_same, List.map_append], R2.same (sNew nu)⟩, hlen, fun q H' s nq ch => k j h1 h2 q H' (s3.trans s) (s3.free nq) ch⟩
theorem ok_cput (D : DefM K C "put" "Choices.put" s_cput) (T : Txt4 P w K mg C Cu Ci Ct) (O : Og P w K mg base C Cu) : HasM P w K mg base (L2.CX P w) 4 C "put" ["self", "name", "many"] (spPut C Ci Ct) := by
  obtain ⟨f, fd, F, hs, hf⟩ := D
  refine ⟨f, fd, F.okX sc_cput (fun vs H Q E h => ?_) (fun cdv A outer s H vs Q E hr h => ?_), hs, hf, F.kp, F.binds fun _ _ _ _ _ _ us hl => match us, hl with | [_, _, _], _ => rfl⟩
  · obtain ⟨p, rows, g, m, z, rfl, _⟩ := h
    rfl
  obtain ⟨p, rows, g, m, z, rfl, ⟨dx, te, tn, hp, ⟨ts, ht, hR⟩, hn⟩, hl, pre, kI, kT, k⟩ := h
  refine ⟨_, (pss_cons (ps_if (PW.pt (pw_and (pt_not (pt_val (pe_callO O.is_name hr (by rfl) pass0 (pa_cons (pv 1) pa_nil)))) (pw_and1 (pt_not (pt_val (pe_callO O.is_opened_name hr (by rfl) pass0 (pa_cons (pv 1) pa_nil)))))))
  (pss_one (ps_raise rfl (takes_of rfl rfl rfl rfl) (pmk_x T.x_InvalidName.mkc (raises_own T.x_InvalidName.ra.1 T.x_InvalidName.ra.2) T.x_InvalidName.kC hr (by rfl) T.x_InvalidName.gC (pa_cons (pv 1) pa_nil))))
  pss_nil)
  (pss_cons (ps_if (pt_cmpR op_in_seq (pv 1) (pe_fld (pv 0) rfl) (by rfl))
  (pss_one (ps_raise rfl (takes_of rfl rfl rfl rfl) (pmk_x T.x_Taken.mkc (raises_own T.x_Taken.ra.1 T.x_Taken.ra.2) T.x_Taken.kC hr (by rfl) T.x_Taken.gC (pa_cons (pv 1) pa_nil))))
  pss_nil)
  (pss_one (ps_ret (pe_cmO (pe_glob (v := .ref C) (by rfl) T.m_Choices rfl) O.m_made hr pass0 (pa_cons (pe_op op_catA (pe_fld (pv 0) rfl) (pe_tup (pa_cons (pe_tup (pa_cons (pv 1) (pa_cons (pv 2) (pa_cons (pe_fld (pv 0) rfl) pa_nil)))) pa_nil))) (pa_cons (pe_op op_add (pe_fld (pv 0) rfl) pe_int) pa_nil))))))), ?_⟩
  have l1 : (2000 : Nat) ≤ sizeLine := by decide
  refine seq_if (fun H' => Same H H' ∧ (isNm z || isOp z) = true) (fun H1 hh => ?_) fun rest => ?_
  rotate_left
  · refine ⟨_, rfl, .str z, rfl, .inl ⟨z, rfl, by have := pre.1; omega, fun H1 s1 => ⟨_, rfl, ite2 (fun c => ?_) (fun c => ?_)⟩⟩⟩
    · have c' : isNm z = false := by simpa using c
      refine ⟨_, rfl, z, rfl, pre.1, pre.2.1, pre.2.2.1, pre.2.2.2, fun H2 s2 => ⟨_, rfl, ite2 (fun c2 => ?_) (fun c2 => ?_)⟩⟩
      · have c2' : isOp z = false := by simpa using c2
        exact ⟨_, rfl, rfl, fun d nd => kI (by rw [c', c2']; rfl) H2 d (s1.trans s2) nd⟩
      · have c2' : isOp z = true := by simpa using c2
        exact rest H2 ⟨s1.trans s2, by rw [c2', Bool.or_true]⟩
    · have c' : isNm z = true := by simpa using c
      exact rest H1 ⟨s1, by rw [c', Bool.true_or]⟩
  obtain ⟨s1, gd⟩ := hh
  refine ⟨_, rfl, _, rfl, p, C, dx, _, _, rfl, s1 _ _ hp, T.cl, T.nN, cf_n, tn, _, rfl, .inr (hn.same s1).sqt, rfl, flat_names, _, rfl, ite2 (fun c => ?_) (fun c => ?_)⟩
  · have hz : z ∈ rows.map (·.1) := by
      rw [if_neg (by simp), inV_names] at c
      exact of_decide_eq_true c
    exact ⟨_, rfl, rfl, fun d nd => kT gd hz H1 d s1 nd⟩
  have hz : z ∉ rows.map (·.1) := fun q => by
    rw [if_neg (by simp), inV_names, decide_eq_true q] at c
    exact c rfl
  refine ⟨rfl, _, rfl, p, C, dx, _, _, rfl, s1 _ _ hp, T.cl, T.nE, cf_e, _, rfl, _, rfl, _, rfl, p, C, dx, _, _, rfl, s1 _ _ hp, T.cl, T.nG, cf_g, by show 3 ≤ sizeLine; decide, fun r0 nr => ⟨by show 1 ≤ sizeLine; decide, fun b nb => ?_⟩⟩
  have s2 := s1.trans ((sNew (o := .tup [.str z, .int m, .int g]) nr).trans (sNew (o := .tup [.ref r0]) nb))
  have er := sNew (o := .tup [.ref r0]) nb _ _ (upd_same (H := H1) (a := r0) (o := .tup [.str z, .int m, .int g]))
  have eb := upd_same (H := upd H1 r0 (.tup [.str z, .int m, .int g])) (a := b) (o := .tup [.ref r0])
  generalize upd (upd H1 r0 (.tup [.str z, .int m, .int g])) b (.tup [.ref r0]) = H2 at s2 er eb ⊢
  have hlen : (rows ++ [(z, m, g)]).length ≤ 1000 := by rw [List.length_append]; show rows.length + 1 ≤ _; omega
  have R2 : Rows H2 (ts ++ [r0]) (rows ++ [(z, m, g)]) := (hR.same s2).app (.cons er .nil)
  refine ⟨te, b, _, _, rfl, rfl, SqT.of (s2 _ _ ht), SqT.of eb, by rw [List.length_map, hR.len]; show rows.length + 1 ≤ _; omega, fun q0 => ?_, fun q0 q1 => absurd q1 (by simp), fun q0 q1 u nu => ?_⟩
  · have q2 : ts = [] := List.map_eq_nil_iff.mp q0
    rw [q2, List.nil_append] at R2
    exact ⟨_, rfl, p, C, dx, _, _, rfl, s2 _ _ hp, T.cl, T.nG, cf_g, _, _, rfl, rfl, b, rows ++ [(z, m, g)], g + 1, rfl, ⟨[r0], eb, R2⟩, hlen, fun q H' s nq ch => k gd hz q H' (s2.trans s) (s2.free nq) ch⟩
  · have s3 := s2.trans (sNew (o := .tup (ts.map V.ref ++ [V.ref r0])) nu)
    exact ⟨_, rfl, p, C, dx, _, _, rfl, s3 _ _ hp, T.cl, T.nG, cf_g, _, _, rfl, rfl, u, rows ++ [(z, m, g)], g + 1, rfl, ⟨ts ++ [r0], by rw [upd_same, List.map_append]; rfl, R2.same (sNew nu)⟩, hlen, fun q H' s nq ch => k gd hz q H' (s3.trans s) (s3.free nq) ch⟩
end
end Law

set_option Elab.async false
set_option linter.all false
set_option maxRecDepth 100000
set_option maxHeartbeats 4000000
set_option pp.maxSteps 150
set_option pp.deepTerms.threshold 6
namespace Law
open PySem L2
abbrev s_step : Stmt := top 21
theorem sc_step : FnScope ["_law_choices", "_law_form", "_law_title", "_law_many", "_law_found", "e"] ["_law_choices", "_law_form", "_law_title", "_law_many"] (defScope s_step) := ⟨rfl, rfl, rfl, by decide +kernel, rfl, by decide +kernel, by decide +kernel⟩
abbrev s_unknown : Stmt := top 22
theorem sc_unknown : FnScope ["_law_choices", "_law_form", "_law_title", "_law_found", "e"] ["_law_choices", "_law_form", "_law_title"] (defScope s_unknown) := ⟨rfl, rfl, rfl, by decide +kernel, rfl, by decide +kernel, by decide +kernel⟩
abbrev TpAt (H : Hp) (t : Addr) (a : Str) (v : V) : Prop := H t = some (.tup [.str a, v])
/-- one step: what came of it -/
def spStep (C : Addr) : Sp := fun vs H Q _ => ∃ (p : Addr) (rows : List Row) (g f m : Int) (z : Str), vs = [.ref p, .int f, .str z, .int m] ∧ ChAt C H p rows g ∧ rows.length ≤ 900 ∧ OpPre z ∧
  (f = 0 → (isNm z || isOp z) = false → ∀ t H', Same H H' → TpAt H' t "invalid" (.str z) → Q (.ref t) H') ∧
  (f = 0 → (isNm z || isOp z) = true → z ∈ rows.map (·.1) → ∀ t H', Same H H' → TpAt H' t "taken" (.str z) → Q (.ref t) H') ∧
  (f = 0 → (isNm z || isOp z) = true → z ∉ rows.map (·.1) → ∀ t q H', Same H H' → TpAt H' t "done" (.ref q) → H q = none → ChAt C H' q (rows ++ [(z, m, g)]) (g + 1) → Q (.ref t) H') ∧
  (f ≠ 0 → z ∉ rows.map (·.1) → ∀ t H', Same H H' → TpAt H' t "unknown" (.str z) → Q (.ref t) H') ∧
  (f ≠ 0 → ∀ j, rows[j]?.map (·.1) = some z → (∀ m, m < j → rows[m]?.map (·.1) ≠ some z) → ∀ t q H', Same H H' → TpAt H' t "done" (.ref q) → H q = none → ChAt C H' q (rows.eraseIdx j) g → Q (.ref t) H')
def spUnknown (C : Addr) : Sp := fun vs H Q _ => ∃ (p : Addr) (rows : List Row) (g f : Int) (z : Str), vs = [.ref p, .int f, .str z] ∧ ChAt C H p rows g ∧ rows.length ≤ 900 ∧ z ∉ rows.map (·.1) ∧ ∀ H', Same H H' → Q (.str z) H'
section
variable {P : Program} {w : World} {K : PySem.W.Frag} {mg : Str → Option Value} {base : Heap} {C Cu Ci Ct : Addr}
structure Txt5 (P : Program) (w : World) (K : PySem.W.Frag) (mg : Str → Option Value) (C Cu Ci Ct : Addr) : Prop extends Txt4 P w K mg C Cu Ci Ct where
  ii : PySem.W.exmOne K (.ref Ci) (.ref Ci) = some true
  ti : PySem.W.exmOne K (.ref Ct) (.ref Ci) = some false
  tt : PySem.W.exmOne K (.ref Ct) (.ref Ct) = some true
  ui : PySem.W.exmOne K (.ref Cu) (.ref Ci) = some false
  ut : PySem.W.exmOne K (.ref Cu) (.ref Ct) = some false
  uu : PySem.W.exmOne K (.ref Cu) (.ref Cu) = some true
  gf : ∀ f, PySem.W.findIn K (.ref C) "__getitem__" = some (some (.ref f)) → PySem.W.fnIn K f = true
structure Oh (P : Program) (w : World) (K : PySem.W.Frag) (mg : Str → Option Value) (base : Heap) (C Cu Ci Ct : Addr) : Prop where
  m_put : HasM P w K mg base (L2.CX P w) 4 C "put" ["self", "name", "many"] (spPut C Ci Ct)
  m_without : HasM P w K mg base (L2.CX P w) 4 C "without" ["self", "name"] (spWithout C Cu)
  m_get : HasM P w K mg base (L2.CX P w) 3 C "__getitem__" ["self", "name"] (spAt C Cu manyAt)
  m_number : HasM P w K mg base (L2.CX P w) 3 C "number" ["self", "name"] (spAt C Cu numAt)
theorem lkN {z : Str} : List.lookup ("name" : Str) [(("name" : Str), V.str z)] = some (.str z) := by rw [List.lookup_cons, ee]
theorem ok_step (D : Def K mg "_law_step" s_step) (T : Txt5 P w K mg C Cu Ci Ct) (O : Oh P w K mg base C Cu Ci Ct) : HasFn P w K mg base CX0 5 "_law_step" ["_law_choices", "_law_form", "_law_title", "_law_many"] (spStep C) := by
  obtain ⟨f, fd, F, hm⟩ := D
  refine ⟨f, fd, F.ok sc_step (fun vs H Q E h => ?_) (fun cdv A outer s H vs Q E hr h => ?_), hm, F.kp, F.binds fun _ _ _ _ _ _ us hl => match us, hl with | [_, _, _, _], _ => rfl⟩
  · obtain ⟨p, rows, g, f, m, z, rfl, _⟩ := h
    rfl
  obtain ⟨p, rows, g, fo, m, z, rfl, hC, hl, pre, kI, kT, kD, kU, kW⟩ := h
  refine ⟨_, (pss_cons (ps_set (i := 4) sc_step.nd rfl (Or.inl rfl) (pe_tup (pa_cons pe_str (pa_cons (pv 0) pa_nil))))
    (pss_cons (ps_try_all (i := 5) (n := "e")
      (tb := fun W => tAsg (tTup (tCons (tC (.str "done")) (tCons (tIf (tTest (tOp rEq (tVar 1) (tC (.int 0)))) (tMethW C "put" (spPut C Ci Ct) (WE W) (tVar 0) (tCons (tVar 2) (tCons (tVar 3) tNil))) (tMethW C "without" (spWithout C Cu) (WE W) (tVar 0) (tCons (tVar 2) tNil))) tNil))) (gName 4))
      (l := [(.ref Ci, fun a cls d => tAsg (tTup (tCons (tC (.str "invalid")) (tCons (tXs K "name" a cls d (tVar 5)) tNil))) (gName 4)), (.ref Ct, fun a cls d => tAsg (tTup (tCons (tC (.str "taken")) (tCons (tXs K "name" a cls d (tVar 5)) tNil))) (gName 4)), (.ref Cu, fun a cls d => tAsg (tTup (tCons (tC (.str "unknown")) (tCons (tXs K "name" a cls d (tVar 5)) tNil))) (gName 4))])
      rfl rfl sc_step.nd rfl rfl takes0
      (fun W pn xe tk _ => pss_one (ps_set (i := 4) sc_step.nd rfl (Or.inl rfl) (pe_tup (pa_cons pe_str (pa_cons (pe_ifExp (pt_cmpR op_eq (pv 1) pe_int (nomark _)) (pe_methW (pv 0) T.cl O.m_put hr (fun σ => passAt tk σ) (pa_cons (pv 2) (pa_cons (pv 3) pa_nil))) (pe_methW (pv 0) T.cl O.m_without hr (fun σ => passAt tk σ) (pa_cons (pv 2) pa_nil))) pa_nil)))))
      (.more ⟨rfl, by decide, .inl T.x_InvalidName.gC⟩ (fun a oe cls d pn hz hf => pss_one (ps_set (i := 4) sc_step.nd rfl (Or.inl rfl) (pe_tup (pa_cons pe_str (pa_cons (pe_xs hz hf (pv 5)) pa_nil)))))
        (.more ⟨rfl, by decide, .inl T.x_Taken.gC⟩ (fun a oe cls d pn hz hf => pss_one (ps_set (i := 4) sc_step.nd rfl (Or.inl rfl) (pe_tup (pa_cons pe_str (pa_cons (pe_xs hz hf (pv 5)) pa_nil)))))
          (.more ⟨rfl, by decide, .inl T.x_UnknownName.gC⟩ (fun a oe cls d pn hz hf => pss_one (ps_set (i := 4) sc_step.nd rfl (Or.inl rfl) (pe_tup (pa_cons pe_str (pa_cons (pe_xs hz hf (pv 5)) pa_nil))))) .done))))
      (pss_one (ps_ret (pv 4))))), ?_⟩
  refine ⟨_, rfl, by show 2 ≤ sizeLine; decide, fun t0 n0 => ?_⟩
  have s0 := sNew (o := .tup [.str "other", .ref p]) n0
  show tSeq _ _ _ _ (upd H t0 (.tup [.str "other", .ref p]))
  generalize upd H t0 (.tup [.str "other", .ref p]) = H0 at s0 ⊢
  have hC0 := hC.same s0
  obtain ⟨dx, te, tn, hp, hE, hn⟩ := id hC0
  refine ⟨_, rfl, rfl, _, rfl, ite2 (fun c => ?_) (fun c => ?_)⟩
  · have f0 : fo = 0 := V.int.inj (of_decide_eq_true c)
    refine ⟨_, rfl, p, dx, _, rfl, hp, cf_no (by decide +kernel) (by decide +kernel) (by decide +kernel), _, rfl, _, rfl, p, rows, g, m, z, rfl, hC0, hl, pre, fun gd H1 d s1 nd => ?_, fun gd hz H1 d s1 nd => ?_, fun gd hz q H1 s1 nq ch => ?_⟩
    · refine ⟨true, T.ii, fun _ a na => ⟨_, rfl, rfl, Ci, d, _, .str z, rfl, rfl, upd_same, T.x_InvalidName.xf, T.x_InvalidName.nf _ (by simp), lkN, by show 2 ≤ sizeLine; decide, fun t nt => ⟨_, rfl, ?_⟩⟩, fun q => by cases q⟩
      exact kI f0 gd t _ ((s0.trans s1).trans ((sNew nd).trans (sNew nt))) upd_same
    · refine ⟨false, T.ti, (fun q => by cases q), fun _ => ⟨true, T.tt, fun _ a na => ⟨_, rfl, rfl, Ct, d, _, .str z, rfl, rfl, upd_same, T.x_Taken.xf, T.x_Taken.nf _ (by simp), lkN, by show 2 ≤ sizeLine; decide, fun t nt => ⟨_, rfl, ?_⟩⟩, fun q => by cases q⟩⟩
      exact kT f0 gd hz t _ ((s0.trans s1).trans ((sNew nd).trans (sNew nt))) upd_same
    · refine ⟨by show 2 ≤ sizeLine; decide, fun t nt => ⟨_, rfl, ?_⟩⟩
      exact kD f0 gd hz t q _ ((s0.trans s1).trans (sNew nt)) upd_same (s0.free nq) (ch.same (sNew nt))
  · have f0 : fo ≠ 0 := fun q => c (decide_eq_true (by rw [q]))
    refine ⟨_, rfl, p, dx, _, rfl, hp, cf_no (by decide +kernel) (by decide +kernel) (by decide +kernel), _, rfl, p, rows, g, z, rfl, hC0, hl, fun hz d nd => ?_, fun j h1 h2 q H1 s1 nq ch => ?_⟩
    · refine ⟨false, T.ui, (fun q => by cases q), fun _ => ⟨false, T.ut, (fun q => by cases q), fun _ => ⟨true, T.uu, fun _ a na => ⟨_, rfl, rfl, Cu, d, _, .str z, rfl, rfl, upd_same, T.x_UnknownName.xf, T.x_UnknownName.nf _ (by simp), lkN, by show 2 ≤ sizeLine; decide, fun t nt => ⟨_, rfl, ?_⟩⟩, fun q => by cases q⟩⟩⟩
      exact kU f0 hz t _ (s0.trans ((sNew nd).trans (sNew nt))) upd_same
    · refine ⟨by show 2 ≤ sizeLine; decide, fun t nt => ⟨_, rfl, ?_⟩⟩
      exact kW f0 j h1 h2 t q _ ((s0.trans s1).trans (sNew nt)) upd_same (s0.free nq) (ch.same (sNew nt))
end
end Law

set_option Elab.async false
set_option linter.all false
set_option maxRecDepth 100000
set_option maxHeartbeats 400000
set_option pp.maxSteps 150
set_option pp.deepTerms.threshold 6
namespace Law
open PySem L2
abbrev s_right : Stmt := top 23
theorem sc_right : FnScope ["_law_choices", "_law_rows", "_law_titles_here", "_law_title", "_law_many", "_law_number", "_law_row"] ["_law_choices", "_law_rows"] (defScope s_right) := ⟨rfl, rfl, rfl, by decide +kernel, rfl, by decide +kernel, by decide +kernel⟩
/-- the law's own rows: a list -/
def LsT (H : Hp) (l : Addr) (rows : List Row) : Prop := ∃ ts : List Addr, H l = some (.lst (ts.map V.ref)) ∧ Rows H ts rows
theorem LsT.same {H H' : Hp} {l : Addr} {rows : List Row} (s : Same H H') (h : LsT H l rows) : LsT H' l rows := let ⟨ts, e, r⟩ := h; ⟨ts, s _ _ e, r.same s⟩
/-- rows as they must be: names no two alike, of few signs, not the two that are never there -/
structure Fine (rows : List Row) : Prop where
  len : rows.length ≤ 40
  nd : (rows.map (·.1)).Nodup
  sm : ∀ r ∈ rows, r.1.length ≤ 20
  ok : ∀ r ∈ rows, PyData.strOk r.1 = true
  nv : ("never" : Str) ∉ rows.map (·.1)
  ne : ("" : Str) ∉ rows.map (·.1)
def spRight (C : Addr) : Sp := fun vs H Q _ => ∃ (p l : Addr) (rows : List Row) (g : Int), vs = [.ref p, .ref l] ∧ ChAt C H p rows g ∧ LsT H l rows ∧ Fine rows ∧ ∀ H', Same H H' → Q (.bl true) H'
theorem notSelf (v : V) : (!decide (v = v)) = false := by simp
theorem notTrue {c : Bool} (h : c = true) : (!c) = false := by rw [h]; rfl
theorem names_dp {K : PySem.W.Frag} {H : Hp} : ∀ {rows : List Row}, DpAll K H (rows.map fun r => V.str r.1) (rows.map fun r => PyData.str r.1)
  | [] => .nil
  | _ :: _ => .cons (.str _) names_dp
theorem sok {x : Str} (h : PyData.strOk x = true) : (reprText x).length ≤ 10 * x.length + 2 := PySem.StrLaws.reprText_len x fun c hc => by
  unfold PyData.strOk at h
  have := Array.all_eq_true_iff_forall_mem.mp h c (by simpa using hc)
  have := of_decide_eq_true this
  omega
theorem shows_all : ∀ {rows : List Row}, (∀ r ∈ rows, r.1.length ≤ 20) → (∀ r ∈ rows, PyData.strOk r.1 = true) → PyData.showableAll (rows.map fun r => PyData.str r.1) = true ∧ PyData.hasDictAll (rows.map fun r => PyData.str r.1) = false ∧ PyData.depthAll (rows.map fun r => PyData.str r.1) = 0 ∧ ((PyData.shownAll (rows.map fun r => PyData.str r.1)).map (·.length)).sum ≤ 202 * rows.length
  | [], _, _ => ⟨rfl, rfl, rfl, Nat.zero_le _⟩
  | r :: rows, h, h' => by
    obtain ⟨a, b, c, d⟩ := shows_all (rows := rows) (fun x hx => h x (List.mem_cons_of_mem _ hx)) (fun x hx => h' x (List.mem_cons_of_mem _ hx))
    have e := sok (h' r List.mem_cons_self)
    have e2 := h r List.mem_cons_self
    refine ⟨by simp only [List.map_cons, PyData.showableAll, PyData.showable, h' r List.mem_cons_self, a, Bool.and_self], by simp only [List.map_cons, PyData.hasDictAll, PyData.hasDict, b, Bool.or_self], by simp only [List.map_cons, PyData.depthAll, PyData.depth, c, Nat.max_self], ?_⟩
    simp only [List.map_cons, PyData.shownAll, PyData.shown, List.sum_cons, List.length_cons]
    omega
theorem shows_names {rows : List Row} (h0 : rows.length ≤ 40) (h : ∀ r ∈ rows, r.1.length ≤ 20) (h' : ∀ r ∈ rows, PyData.strOk r.1 = true) : (PyData.tuple (rows.map fun r => PyData.str r.1)).showable = true ∧ (PyData.tuple (rows.map fun r => PyData.str r.1)).hasDict = false ∧ (PyData.tuple (rows.map fun r => PyData.str r.1)).depth ≤ 60 ∧ (PyData.tuple (rows.map fun r => PyData.str r.1)).shown.length ≤ sizeLine := by
  obtain ⟨a, b, c, d⟩ := shows_all h h'
  refine ⟨by simp only [PyData.showable, a], by simp only [PyData.hasDict, b], by simp only [PyData.depth, c]; decide, ?_⟩
  simp only [PyData.shown]
  have := tupleText_len_le (PyData.shownAll (rows.map fun r => PyData.str r.1))
  rw [PyData.shownAll_length, List.length_map] at this
  rw [sizeLine_eq]
  omega
section
variable {P : Program} {w : World} {K : PySem.W.Frag} {mg : Str → Option Value} {base : Heap} {C Cu Ci Ct : Addr}
theorem ok_unknown (D : Def K mg "_law_unknown" s_unknown) (T : Txt5 P w K mg C Cu Ci Ct) (O : Oh P w K mg base C Cu Ci Ct) : HasFn P w K mg base CX0 5 "_law_unknown" ["_law_choices", "_law_form", "_law_title"] (spUnknown C) := by
  obtain ⟨f, fd, F, hm⟩ := D
  refine ⟨f, fd, F.ok sc_unknown (fun vs H Q E h => ?_) (fun cdv A outer s H vs Q E hr h => ?_), hm, F.kp, F.binds fun _ _ _ _ _ _ us hl => match us, hl with | [_, _, _], _ => rfl⟩
  · obtain ⟨p, rows, g, f, z, rfl, _⟩ := h
    rfl
  obtain ⟨p, rows, g, fo, z, rfl, hC, hl, hz, k⟩ := h
  refine ⟨_, (pss_cons (ps_set (i := 3) sc_unknown.nd rfl (Or.inl rfl) pe_non)
    (pss_cons (ps_try_all (i := 4) (n := "e")
      (tb := fun W => tAsg (tOp (rI CMul fun i j => .int (i * j)) (tIf (tTest (tOp rEq (tVar 1) (tC (.int 0)))) (tOwnIx C (spAt C Cu manyAt) (WE W) (tVar 0) (tVar 2)) (tMethW C "number" (spAt C Cu numAt) (WE W) (tVar 0) (tCons (tVar 2) tNil))) (tC (.int 0))) (gName 3))
      (l := [(.ref Cu, fun a cls d => tAsg (tXs K "name" a cls d (tVar 4)) (gName 3))])
      rfl rfl sc_unknown.nd rfl rfl takes0
      (fun W pn xe tk _ => pss_one (ps_set (i := 3) sc_unknown.nd rfl (Or.inl rfl) (pe_op op_mul (pe_ifExp (pt_cmpR op_eq (pv 1) pe_int (nomark _)) (pe_ownIx O.m_get T.gf hr (fun σ => passAt tk σ) (pv 0) (pv 2)) (pe_methW (pv 0) T.cl O.m_number hr (fun σ => passAt tk σ) (pa_cons (pv 2) pa_nil))) pe_int)))
      (.more ⟨rfl, by decide, .inl T.x_UnknownName.gC⟩ (fun a oe cls d pn hz hf => pss_one (ps_set (i := 3) sc_unknown.nd rfl (Or.inl rfl) (pe_xs hz hf (pv 4)))) .done))
      (pss_one (ps_ret (pv 3))))), ?_⟩
  obtain ⟨dx, te, tn, hp, hE, hn⟩ := id hC
  have no : ∀ j : Nat, rows[j]?.map (·.1) ≠ some z := fun j e => by
    cases q : rows[j]? with
    | none => rw [q] at e; cases e
    | some r =>
      rw [q] at e
      exact hz (List.mem_map.mpr ⟨r, List.mem_of_getElem? q, Option.some.inj e⟩)
  refine ⟨_, rfl, rfl, _, rfl, ite2 (fun c => ?_) (fun c => ?_)⟩
  · exact ⟨_, rfl, _, rfl, p, dx, _, rfl, hp, p, rows, g, z, rfl, hC, by omega, fun _ d nd => ⟨true, T.uu, fun _ a na => ⟨_, rfl, rfl, Cu, d, _, .str z, rfl, rfl, upd_same, T.x_UnknownName.xf, T.x_UnknownName.nf _ (by simp), lkN, _, rfl, k _ (sNew nd)⟩, fun q => by cases q⟩, fun j h1 _ => absurd h1 (no j)⟩
  · exact ⟨_, rfl, p, dx, _, rfl, hp, cf_no (by decide +kernel) (by decide +kernel) (by decide +kernel), _, rfl, p, rows, g, z, rfl, hC, by omega, fun _ d nd => ⟨true, T.uu, fun _ a na => ⟨_, rfl, rfl, Cu, d, _, .str z, rfl, rfl, upd_same, T.x_UnknownName.xf, T.x_UnknownName.nf _ (by simp), lkN, _, rfl, k _ (sNew nd)⟩, fun q => by cases q⟩, fun j h1 _ => absurd h1 (no j)⟩
structure Oi (P : Program) (w : World) (K : PySem.W.Frag) (mg : Str → Option Value) (base : Heap) (C Cu Ci Ct : Addr) : Prop extends Oh P w K mg base C Cu Ci Ct where
  law_same : HasG P w K mg base CX0 1 "_law_same" ["_law_one", "_law_other"] (spSame K)
  m_len : HasM P w K mg base CX0 1 C "__len__" ["self"] (spLen C)
  m_in : HasM P w K mg base CX0 1 C "__contains__" ["self", "name"] (spIn C)
theorem ok_right (D : Def K mg "_law_right" s_right) (T : Txt5 P w K mg C Cu Ci Ct) (O : Oi P w K mg base C Cu Ci Ct) : HasG P w K mg base CX0 5 "_law_right" ["_law_choices", "_law_rows"] (spRight C) := by
  obtain ⟨f, fd, F, hm⟩ := D
  refine ⟨f, fd, F.okG sc_right (fun vs H Q E h => ?_) (fun cdv A outer s H vs Q E hgs hr h => ?_), hm, F.kp, F.binds fun _ _ _ _ _ _ us hl => match us, hl with | [_, _], _ => rfl⟩
  · obtain ⟨p, l, rows, g, rfl, _⟩ := h
    rfl
  obtain ⟨p, l, rows, g, rfl, hC, ⟨us, hl, hU⟩, fi, k⟩ := h
  refine ⟨_, (pss_cons (ps_set (i := 2) sc_right.nd rfl (Or.inl rfl) (pe_callTy call_tupleF (by rfl) T.n_tuple (by decide +kernel) (pa_cons (pe_lc (own := [("_law_row", 6)]) (g := gName 6) (tt := tYes) (by rfl) sc_right.nd (pi_list (pv 1)) (blkOk_by (own := [("_law_row", 6)]) (N := ["_law_choices", "_law_rows", "_law_titles_here", "_law_title", "_law_many", "_law_number", "_law_row"]) (sc := defScope s_right) (by decide +kernel)) (fun _ _ _ _ _ => (pg_name (i := 6) sc_right.nd rfl (Or.inl rfl))) (fun _ _ _ _ _ => pts_nil) (fun _ _ _ _ _ => (pe_ix (r := rIxT K) ix_tup (pv 6) pe_int (fun _ _ => rfl)))) pa_nil)))
  (pss_cons (ps_if (PW.pt (pw_or (pt_not (pt_val (pe_callOG O.law_same hgs hr (by rfl) pass0 (pa_cons (pe_fld (pv 0) rfl) (pa_cons (pv 2) pa_nil))))) (pw_or1 (pt_cmpR op_ne (pe_callB (call_ownLen O.m_len hr pass0) (by rfl) T.n_len (by decide +kernel) (pa_cons (pv 0) pa_nil)) (pe_callB call_len_seq (by rfl) T.n_len (by decide +kernel) (pa_cons (pv 1) pa_nil)) (nomark _)))))
  (pss_one (ps_ret pe_bl))
  pss_nil)
  (pss_cons (ps_for PassesOwn.never rfl (pi_list (pv 1)) (pg_tup rfl (pgs_cons (pg_name (i := 3) sc_right.nd rfl (Or.inl rfl)) (pgs_cons (pg_name (i := 4) sc_right.nd rfl (Or.inl rfl)) (pgs_cons (pg_name (i := 5) sc_right.nd rfl (Or.inl rfl)) pgs_nil))))
  (pss_one (ps_if (PW.pt (pw_or (pt_cmpR op_ne (pe_ownIx O.m_get T.gf hr passS (pv 0) (pv 3)) (pv 4) (nomark _)) (pw_or (pt_cmpR op_ne (pe_methW (pv 0) T.cl O.m_number hr passS (pa_cons (pv 3) pa_nil)) (pv 5) (nomark _)) (pw_or1 (pt_cmpR (op_ownNotIn O.m_in hr pass0) (pv 3) (pv 0) (by rfl))))))
    (pss_one (ps_ret pe_bl))
    pss_nil)))
  (pss_one (ps_ret (pe_and (pe_cmpR (op_ownNotIn O.m_in hr pass0) pe_str (pv 0) (by rfl)) (pe_one (pe_cmpR (op_ownNotIn O.m_in hr pass0) pe_str (pv 0) (by rfl))))))))), ?_⟩
  obtain ⟨dx, te, tn, hp, hE, hn⟩ := id hC
  have l1 : (2000 : Nat) ≤ sizeLine := by decide
  have hUl := hU.len
  have h40 := fi.len
  refine ⟨_, rfl, l, rfl, ⟨_, SqL.of hl⟩, fun D nD => lc_list (xs := us.map V.ref) (fun i H1 => H1 = upd H D (.lst ((rows.take i).map fun r => V.str r.1))) (by simp) (fun i H1 _ e => by subst e; exact SqL.of (sNew nD _ _ hl)) ?_ ?_⟩
  · rintro i y H1 hy rfl
    rw [List.getElem?_map] at hy
    obtain ⟨t, ht, rfl⟩ : ∃ t, us[i]? = some t ∧ y = V.ref t := by
      cases e : us[i]? with
      | none => rw [e] at hy; cases hy
      | some t => rw [e] at hy; exact ⟨t, rfl, (Option.some.inj hy).symm⟩
    obtain ⟨r, hr1, hr2⟩ := hU.at ht
    refine ⟨rfl, ?_⟩
    simp only [tYes, if_true]
    refine ⟨_, rfl, t, _, 0, _, rfl, rfl, SqT.of (sNew nD _ _ hr2), rfl, _, upd_same, ?_, ?_⟩
    · rw [List.length_map, List.length_take]
      omega
    · rw [upd_upd, List.take_succ, hr1, List.map_append]
      rfl
  rintro _ rfl
  have et : rows.take (us.map V.ref).length = rows := by rw [List.length_map, hUl]; exact List.take_of_length_le (Nat.le_refl _)
  rw [et]
  refine ⟨D, _, rfl, SqL.of upd_same, fun tt o nt od => ?_⟩
  have s1 := (sNew (o := .lst (rows.map fun r => V.str r.1)) nD).trans (sNew (o := .frz o (.tup (rows.map fun r => V.str r.1))) nt)
  have htt : Tf (upd (upd H D (.lst (rows.map fun r => V.str r.1))) tt (.frz o (.tup (rows.map fun r => V.str r.1)))) tt (rows.map fun r => V.str r.1) := ⟨o, upd_same, od⟩
  show tSeq _ _ _ _ (upd (upd H D (.lst (rows.map fun r => V.str r.1))) tt (.frz o (.tup (rows.map fun r => V.str r.1))))
  generalize upd (upd H D (.lst (rows.map fun r => V.str r.1))) tt (.frz o (.tup (rows.map fun r => V.str r.1))) = H1 at s1 htt ⊢
  have hC1 := hC.same s1
  have hp1 := s1 _ _ hp
  have hl1 := s1 _ _ hl
  obtain ⟨d, dp1, dp2, g1, g2, g3, g4⟩ : ∃ d : PyData, Dp K H1 (.ref tn) d ∧ Dp K H1 (.ref tt) d ∧ d.showable = true ∧ d.hasDict = false ∧ d.depth ≤ 60 ∧ d.shown.length ≤ sizeLine :=
    ⟨_, .tup (hn.same s1).sqt names_dp, .tup htt.sqt names_dp, shows_names fi.len fi.sm fi.ok⟩
  refine ⟨_, rfl, p, C, dx, _, _, rfl, hp1, T.cl, T.nN, cf_n, _, rfl, _, _, d, d, rfl, ⟨dp1, g1, g2, g3, g4⟩, ⟨dp2, g1, g2, g3, g4⟩, _, rfl, iteF2 (notTrue (decide_eq_true rfl)) ?_⟩
  refine ⟨_, rfl, p, dx, _, rfl, hp1, p, rows, g, rfl, hC1, by omega, _, rfl, by omega, by omega, _, rfl, l, _, rfl, .inl (SqL.of hl1), rfl, _, rfl, iteF2 (by rw [List.length_map, hUl]; exact notSelf _) ?_⟩
  -- each row
  refine ⟨_, rfl, l, rfl, ⟨_, SqL.of hl1⟩, for_list (xs := us.map V.ref) (fun i σ H2 => ∃ v3 v4 v5 : Option V, σ = [some (.ref p), some (.ref l), some (.ref tt), v3, v4, v5, none] ∧ H2 = H1) ⟨_, _, _, rfl, rfl⟩ (fun i σ H2 _ ⟨_, _, _, _, e⟩ => by subst e; exact SqL.of hl1) ?_ ?_⟩
  · rintro i y σ H2 hy ⟨v3, v4, v5, rfl, rfl⟩
    rw [List.getElem?_map] at hy
    obtain ⟨t, ht, rfl⟩ : ∃ t, us[i]? = some t ∧ y = V.ref t := by
      cases e : us[i]? with
      | none => rw [e] at hy; cases hy
      | some t => rw [e] at hy; exact ⟨t, rfl, (Option.some.inj hy).symm⟩
    obtain ⟨r, hr1, hr2⟩ := hU.at ht
    have hin : r.1 ∈ rows.map (·.1) := List.mem_map.mpr ⟨r, List.mem_of_getElem? hr1, rfl⟩
    have only : ∀ j : Nat, rows[j]?.map (·.1) = some r.1 → rows[j]? = some r := fun j e => by
      have hi' : i < (rows.map (·.1)).length := by
        rw [List.length_map]
        exact (List.getElem?_eq_some_iff.mp hr1).1
      have ej : (rows.map (·.1))[j]? = (rows.map (·.1))[i]? := by rw [names_get, names_get, e, hr1]; rfl
      rw [← (List.getElem?_inj hi' fi.nd).mp ej.symm]
      exact hr1
    refine ⟨t, _, rfl, SqT.of (s1 _ _ hr2), rfl, _, _, rfl, _, _, rfl, _, _, rfl, rfl, ?_⟩
    refine ⟨_, rfl, _, rfl, p, dx, _, rfl, hp1, p, rows, g, r.1, rfl, hC1, by omega, fun hz => absurd hin hz, fun j h1 _ => ?_⟩
    have ej := only j h1
    refine ⟨_, rfl, rfl, _, rfl, iteF2 (by unfold manyAt; rw [ej]; exact notSelf _) ?_⟩
    refine ⟨_, rfl, p, dx, _, rfl, hp1, cf_no (by decide +kernel) (by decide +kernel) (by decide +kernel), _, rfl, p, rows, g, r.1, rfl, hC1, by omega, fun hz => absurd hin hz, fun j2 h3 _ => ?_⟩
    have ej2 := only j2 h3
    refine ⟨_, rfl, rfl, _, rfl, iteF2 (by unfold numAt; rw [ej2]; exact notSelf _) ?_⟩
    refine ⟨_, rfl, _, rfl, p, dx, _, rfl, hp1, p, rows, g, r.1, rfl, hC1, _, rfl, _, rfl, iteF2 (by rw [decide_eq_true hin]; rfl) ?_⟩
    exact ⟨_, _, _, rfl, rfl⟩
  · rintro σ H2 ⟨v3, v4, v5, rfl, rfl⟩
    refine ⟨_, rfl, p, dx, _, rfl, hp1, p, rows, g, "never", rfl, hC1, _, rfl, _, rfl, iteT2 (by rw [decide_eq_false fi.nv]; rfl) ?_⟩
    refine ⟨_, rfl, p, dx, _, rfl, hp1, p, rows, g, "", rfl, hC1, _, rfl, ?_⟩
    rw [decide_eq_false fi.ne]
    exact k _ s1
end
end Law

set_option Elab.async false
set_option linter.all false
set_option maxRecDepth 100000
set_option maxHeartbeats 400000
set_option pp.maxSteps 150
set_option pp.deepTerms.threshold 6
namespace Law
open PySem L2
abbrev s_odd : Stmt := top 24
theorem sc_odd : FnScope ["_law_feed_here", "_law_title"] ["_law_feed_here", "_law_title"] (defScope s_odd) := ⟨rfl, rfl, rfl, by decide +kernel, rfl, by decide +kernel, by decide +kernel⟩
/-- the eight odd texts of a title -/
def odds (t : Str) : List Str := [t ++ "A", "", ("1" : Str) ++ cutS t none (some 2), t ++ ".", ("." : Str) ++ t, t ++ ".01", t ++ " ", cutS t none (some 1) ++ "-"]
def spOdd : Sp := fun vs H Q _ => ∃ (p : Addr) (t : Str), vs = [.ref p, .str t] ∧ Fed p H ∧ t.length ≤ 100 ∧ ∀ z H', Mv p H H' → z ∈ odds t → Q (.str z) H'
section
variable {P : Program} {w : World} {K : PySem.W.Frag} {mg : Str → Option Value} {base : Heap}
structure Oj (P : Program) (w : World) (K : PySem.W.Frag) (mg : Str → Option Value) (base : Heap) : Prop where
  law_take : HasFn P w K mg base CX0 1 "_law_take" ["_law_feed_here", "_law_many"] spTk
theorem ok_odd (D : Def K mg "_law_odd" s_odd) (O : Oj P w K mg base) : HasFn P w K mg base CX0 2 "_law_odd" ["_law_feed_here", "_law_title"] spOdd := by
  obtain ⟨f, fd, F, hm⟩ := D
  refine ⟨f, fd, F.ok sc_odd (fun vs H Q E h => ?_) (fun cdv A outer s H vs Q E hr h => ?_), hm, F.kp, F.binds fun _ _ _ _ _ _ us hl => match us, hl with | [_, _], _ => rfl⟩
  · obtain ⟨p, t, rfl, _⟩ := h
    rfl
  obtain ⟨p, t, rfl, fd0, ht, k⟩ := h
  refine ⟨_, (pss_one (ps_ret (pe_ix ix_list (pe_lst (pa_cons (pe_op op_add_str (pv 1) pe_str) (pa_cons pe_str (pa_cons (pe_op op_add_str pe_str (pe_slice sl_str (pv 1) po_none (po_some pe_int))) (pa_cons (pe_op op_add_str (pv 1) pe_str) (pa_cons (pe_op op_add_str pe_str (pv 1)) (pa_cons (pe_op op_add_str (pv 1) pe_str) (pa_cons (pe_op op_add_str (pv 1) pe_str) (pa_cons (pe_op op_add_str (pe_slice sl_str (pv 1) po_none (po_some pe_int)) pe_str) pa_nil))))))))) (pe_callO O.law_take hr (by rfl) pass0 (pa_cons (pv 0) (pa_cons pe_int pa_nil))) (fun _ _ => rfl)))), ?_⟩
  have l1 : (2000 : Nat) ≤ sizeLine := by decide
  have c1 : ∀ {a b}, (cutS t a b).length ≤ 100 := fun {a b} => Nat.le_trans cutS_len ht
  have s1 : ∀ {z : Str} {x : Str}, z.length ≤ 100 → x.length ≤ 10 → z.length + x.length ≤ sizeLine := fun a b => by omega
  have s2 : ∀ {z : Str} {x : Str}, z.length ≤ 100 → x.length ≤ 10 → x.length + z.length ≤ sizeLine := fun a b => by omega
  refine ⟨_, rfl, _, _, rfl, rfl, s1 ht (by decide +kernel), _, rfl, _, rfl, t, rfl, by omega, _, _, rfl, rfl, s2 c1 (by decide +kernel), _, rfl, _, _, rfl, rfl, s1 ht (by decide +kernel), _, rfl, _, _, rfl, rfl, s2 ht (by decide +kernel), _, rfl, _, _, rfl, rfl, s1 ht (by decide +kernel), _, rfl, _, _, rfl, rfl, s1 ht (by decide +kernel), _, rfl, _, rfl, t, rfl, by omega, _, _, rfl, rfl, s1 c1 (by decide +kernel), by show 8 ≤ sizeLine; decide, fun q nq => ?_⟩
  refine ⟨_, rfl, p, 8, rfl, fd0.same (sNew nq), by decide, by decide, fun d H2 m2 d0 d1 => ?_⟩
  have hq : H2 q = some (.lst ((odds t).map V.str)) := m2.at (fd0.ne nq) upd_same
  obtain ⟨j, rfl⟩ : ∃ j : Nat, d = (j : Int) := ⟨d.toNat, by omega⟩
  have hj : j < (odds t).length := by show j < 8; omega
  refine ⟨q, _, _, .str (odds t)[j], rfl, rfl, SqL.of hq, atI_nat (by rw [List.getElem?_map, List.getElem?_eq_getElem hj]; rfl), ?_⟩
  exact k _ H2 ((Mv.of fd0 (sNew nq)).trans m2) (List.getElem_mem hj)
end
end Law

set_option Elab.async false
set_option linter.all false
set_option maxRecDepth 100000
set_option maxHeartbeats 400000
namespace Law
open PySem L2
def preB (z : Str) : Bool := decide (z.length ≤ 600) && (decide ((Txt.partition z ".").1.length ≤ 600) && (decide ((Txt.partition z ".").2.2.length ≤ 600) && (!numOk (Txt.partition z ".").2.2 2 || (decide (1 ≤ (Txt.partition z ".").2.2.length) && (PySem.intText? (Txt.partition z ".").2.2).isSome))))
theorem preB_ok {z : Str} (h : preB z = true) : OpPre z := by
  unfold preB at h
  obtain ⟨h1, h⟩ := Bool.and_eq_true_iff.mp h
  obtain ⟨h2, h⟩ := Bool.and_eq_true_iff.mp h
  obtain ⟨h3, h⟩ := Bool.and_eq_true_iff.mp h
  refine ⟨of_decide_eq_true h1, of_decide_eq_true h2, of_decide_eq_true h3, fun e => ?_⟩
  rw [e, Bool.not_true, Bool.false_or] at h
  obtain ⟨h4, h5⟩ := Bool.and_eq_true_iff.mp h
  exact ⟨of_decide_eq_true h4, Option.isSome_iff_exists.mp h5⟩
theorem odd1 : ((odds "d.0").all fun z => preB z && !(isNm z || isOp z)) = true := by decide +kernel
theorem odd2 : ((odds "ab.17").all fun z => preB z && !(isNm z || isOp z)) = true := by decide +kernel
theorem good1 : (preB "d.0" && (isNm "d.0" || isOp "d.0")) = true := by decide +kernel
theorem good2 : (preB "ab.17" && (isNm "ab.17" || isOp "ab.17")) = true := by decide +kernel
end Law

set_option Elab.async false
set_option linter.all false
set_option maxRecDepth 100000
set_option maxHeartbeats 400000
namespace Law
open PySem L2
theorem nm_sig {z : Str} (h : isNm z = true) : ∀ c ∈ z.cps.toList, isSig c = true := by
  unfold isNm at h
  exact List.all_eq_true.mp (Bool.and_eq_true_iff.mp h).2
theorem no_nm {z : Str} {c : Nat} (hc : c ∈ z.cps.toList) (hs : isSig c = false) : isNm z = false := by
  cases e : isNm z with
  | false => rfl
  | true =>
    rw [nm_sig e c hc] at hs
    cases hs
theorem dot : ("." : Str).cps.toList = 46 :: [] := by decide +kernel
theorem app_l (a b : Str) : (a ++ b).cps.toList = a.cps.toList ++ b.cps.toList := by
  show (a.cps ++ b.cps).toList = _
  exact Array.toList_append
/-- no '.' in it: no opened name -/
theorem flat {z : Str} (h : 46 ∉ z.cps.toList) (hl : z.length ≤ 600) : preB z = true ∧ isOp z = false := by
  have e := TL.partition_none (y := ".") dot h
  constructor
  · unfold preB
    rw [e]
    have : numOk Str.empty 2 = false := by decide +kernel
    show (decide (z.length ≤ 600) && (decide (z.length ≤ 600) && (decide (Str.empty.length ≤ 600) && (!numOk Str.empty 2 || _)))) = true
    rw [this, decide_eq_true hl]
    rfl
  · unfold isOp
    rw [e]
    show (decide (Str.empty ≠ "") && _) = false
    rw [decide_eq_false (by decide +kernel)]
    rfl
/-- a '.' behind a: the rest is no number, or a is no name -/
theorem parted {a b : Str} (h : 46 ∉ a.cps.toList) (hl : a.length ≤ 500) (hb : b.length ≤ 50) (q : (isNm a && numOk b 2) = false) (pb : numOk b 2 = true → False) : preB (a ++ "." ++ b) = true ∧ isOp (a ++ "." ++ b) = false := by
  have e := TL.partition_app (y := ".") dot (a := a) (b := b) h
  have n : numOk b 2 = false := by
    cases e : numOk b 2 with
    | false => rfl
    | true => exact (pb e).elim
  have l : (a ++ "." ++ b).length ≤ 600 := by
    rw [Str.length_append, Str.length_append]
    have : ("." : Str).length = 1 := by decide +kernel
    omega
  constructor
  · unfold preB
    rw [e]
    show (decide ((a ++ "." ++ b).length ≤ 600) && (decide (a.length ≤ 600) && (decide (b.length ≤ 600) && (!numOk b 2 || _)))) = true
    rw [n, decide_eq_true l, decide_eq_true (by omega : a.length ≤ 600), decide_eq_true (by omega : b.length ≤ 600)]
    rfl
  · unfold isOp
    rw [e]
    show (_ && (isNm a && (numOk b 2 && _))) = false
    rw [n, Bool.false_and, Bool.and_false, Bool.and_false]
end Law

set_option Elab.async false
set_option linter.all false
set_option maxRecDepth 100000
set_option maxHeartbeats 400000
namespace Law
open PySem L2
theorem sig46 : isSig 46 = false := by decide +kernel
theorem nm_dot {t : Str} (h : isNm t = true) : 46 ∉ t.cps.toList := fun q => by
  have := nm_sig h 46 q
  rw [sig46] at this
  cases this
theorem cut_mem {t : Str} {a b : Option Int} {c : Nat} (h : c ∈ (cutS t a b).cps.toList) : c ∈ t.cps.toList := by
  unfold cutS at h
  exact List.mem_of_mem_drop (List.mem_of_mem_take (by simpa using h))
theorem nda {a b : Str} (h : 46 ∉ a.cps.toList) (k : 46 ∉ b.cps.toList) : 46 ∉ (a ++ b).cps.toList := fun q => by
  rw [app_l] at q
  exact (List.mem_append.mp q).elim h k
/-- a title that is a name is good -/
theorem good_nm {t : Str} (h : isNm t = true) : OpPre t ∧ (isNm t || isOp t) = true := by
  have hl := isNm_len h
  exact ⟨preB_ok (flat (nm_dot h) (by omega)).1, by rw [h]; rfl⟩
theorem let_fig : ∀ c ∈ LETS.cps.toList, isFig c = false := by decide +kernel
theorem nm_num {t : Str} (h : isNm t = true) : numOk t 2 = false := by
  have hl := isNm_len h
  have hf : fig t = t := by
    unfold fig
    rw [if_neg]
    intro q
    have e : cutS t none (some 1) = "-" := V.str.inj (of_decide_eq_true q)
    have m : 45 ∈ (cutS t none (some 1)).cps.toList := by rw [e]; decide +kernel
    have := nm_sig h 45 (cut_mem m)
    rw [show isSig 45 = false by decide +kernel] at this
    cases this
  have h1 : isLet (t.cps.getD 0 0) = true := by
    unfold isNm at h
    simp only [Bool.and_eq_true] at h
    exact h.1.2
  have hm : t.cps.getD 0 0 ∈ t.cps.toList := by
    have q : 0 < t.cps.size := hl.1
    simp [q]
  have ha : t.cps.toList.all isFig = false := by
    cases e : t.cps.toList.all isFig with
    | false => rfl
    | true =>
      have a := List.all_eq_true.mp e _ hm
      rw [let_fig _ (of_decide_eq_true h1)] at a
      cases a
  unfold numOk
  rw [hf, ha]
  simp
/-- its odd texts are none -/
theorem odd_nm {t : Str} (h : isNm t = true) : ∀ z ∈ odds t, OpPre z ∧ (isNm z || isOp z) = false := by
  have hl := isNm_len h
  have hd := nm_dot h
  have fl : ∀ {z : Str}, 46 ∉ z.cps.toList → z.length ≤ 600 → isNm z = false → OpPre z ∧ (isNm z || isOp z) = false := fun a b c => ⟨preB_ok (flat a b).1, by rw [c, (flat a b).2]; rfl⟩
  have pt : ∀ {a b : Str}, 46 ∉ a.cps.toList → a.length ≤ 500 → b.length ≤ 50 → numOk b 2 = false → OpPre (a ++ "." ++ b) ∧ (isNm (a ++ "." ++ b) || isOp (a ++ "." ++ b)) = false := fun {a b} h1 h2 h3 h4 => by
    have q := parted h1 h2 h3 (by rw [h4, Bool.and_false]) (fun e => by rw [h4] at e; cases e)
    refine ⟨preB_ok q.1, ?_⟩
    rw [q.2, Bool.or_false]
    exact no_nm (c := 46) (by rw [app_l, app_l, dot]; simp) sig46
  have ln : ∀ {x y : Str}, x.length ≤ 100 → y.length ≤ 100 → (x ++ y).length ≤ 600 := fun a b => by rw [Str.length_append]; omega
  intro z hz
  unfold odds at hz
  simp only [List.mem_cons, List.mem_nil_iff, or_false] at hz
  rcases hz with rfl | rfl | rfl | rfl | rfl | rfl | rfl | rfl
  · refine fl (nda hd (by decide +kernel)) (ln (by omega) (by decide +kernel)) (no_nm (c := 65) (by rw [app_l]; exact List.mem_append_right _ (by decide +kernel)) (by decide +kernel))
  · exact ⟨preB_ok (by decide +kernel), by decide +kernel⟩
  · refine fl (nda (by decide +kernel) fun q => hd (cut_mem q)) (ln (by decide +kernel) (Nat.le_trans cutS_len (by omega))) ?_
    unfold isNm
    have : isLet ((("1" : Str) ++ cutS t none (some 2)).cps.getD 0 0) = false := by
      have e : (("1" : Str) ++ cutS t none (some 2)).cps.getD 0 0 = 49 := by
        show (("1" : Str).cps ++ (cutS t none (some 2)).cps).getD 0 0 = 49
        have e1 : ("1" : Str).cps = #[49] := by decide +kernel
        rw [e1]
        simp [Array.getD, Array.getElem_append]
      rw [e]
      decide +kernel
    rw [this]
    simp
  · have := pt (b := "") hd (by omega) (by decide +kernel) (by decide +kernel)
    rw [show t ++ "." ++ "" = t ++ "." from Str.append_empty _] at this
    exact this
  · have := pt (a := "") (b := t) (by decide +kernel) (by decide +kernel) (by omega) (nm_num h)
    rw [show ("" : Str) ++ "." = "." by decide +kernel] at this
    exact this
  · have := pt (b := "01") hd (by omega) (by decide +kernel) (by decide +kernel)
    rw [Str.append_assoc] at this
    exact this
  · refine fl (nda hd (by decide +kernel)) (ln (by omega) (by decide +kernel)) (no_nm (c := 32) (by rw [app_l]; exact List.mem_append_right _ (by decide +kernel)) (by decide +kernel))
  · refine fl (nda (fun q => hd (cut_mem q)) (by decide +kernel)) (ln (Nat.le_trans cutS_len (by omega)) (by decide +kernel)) (no_nm (c := 45) (by rw [app_l]; exact List.mem_append_right _ (by decide +kernel)) (by decide +kernel))
end Law

set_option Elab.async false
set_option linter.all false
set_option maxRecDepth 100000
set_option maxHeartbeats 400000
namespace Law
open PySem L2
/-- what is no list stays when the feed moves on -/
theorem mv_nl {p b : Addr} {H H' : Hp} {o : HO} (f : Fed p H) (a : Mv p H H') (n : ∀ xs, o ≠ HO.lst xs) (e : H b = some o) : H' b = some o := by
  refine a.but b o (fun z => ?_) e
  obtain ⟨u, v, h, _⟩ := f
  subst z
  rw [h] at e
  exact n _ (Option.some.inj e).symm
theorem Rows.mv {p : Addr} {H H' : Hp} (f : Fed p H) (a : Mv p H H') : ∀ {ts : List Addr} {rs : List Row}, Rows H ts rs → Rows H' ts rs
  | _, _, .nil => .nil
  | _, _, .cons h r => .cons (mv_nl f a (fun _ z => by cases z) h) (r.mv f a)
theorem EnT.mv {p te : Addr} {H H' : Hp} {rows : List Row} (f : Fed p H) (a : Mv p H H') (h : EnT H te rows) : EnT H' te rows := let ⟨ts, e, r⟩ := h; ⟨ts, mv_nl f a (fun _ z => by cases z) e, r.mv f a⟩
theorem NmT.mv {p tn : Addr} {H H' : Hp} {rows : List Row} (f : Fed p H) (a : Mv p H H') (h : NmT H tn rows) : NmT H' tn rows :=
  h.elim (fun ⟨q, b⟩ => .inl ⟨q, mv_nl f a (fun _ z => by cases z) b⟩) fun ⟨o, e, d⟩ => .inr ⟨o, mv_nl f a (fun _ z => by cases z) e, d⟩
theorem ChAt.mv {C p c : Addr} {H H' : Hp} {rows : List Row} {g : Int} (f : Fed p H) (a : Mv p H H') (h : ChAt C H c rows g) : ChAt C H' c rows g :=
  let ⟨dx, te, tn, e, r, q⟩ := h; ⟨dx, te, tn, mv_nl f a (fun _ z => by cases z) e, r.mv f a, q.mv f a⟩
theorem LsT.mv {p l : Addr} {H H' : Hp} {rows : List Row} (f : Fed p H) (a : Mv p H H') (n : l ≠ p) (h : LsT H l rows) : LsT H' l rows := let ⟨ts, e, r⟩ := h; ⟨ts, a.at n e, r.mv f a⟩
end Law

set_option Elab.async false
set_option linter.all false
set_option maxRecDepth 100000
set_option maxHeartbeats 400000
namespace Law
open PySem L2
/-! ### the law's state -/
structure S4 (C : Addr) (H0 : Hp) (p L c l : Addr) (ts : List Str) (rows : List Row) (g : Int) (H : Hp) : Prop where
  same : Same H0 H
  np : H0 p = none
  fed : Fed p H
  tl : H L = some (.lst (ts.map V.str))
  nL : L ≠ p
  ch : ChAt C H c rows g
  ls : LsT H l rows
  nl : l ≠ p
section
variable {C p L c l : Addr} {H0 H H' : Hp} {ts : List Str} {rows : List Row} {g : Int}
theorem S4.mv (S : S4 C H0 p L c l ts rows g H) (m : Mv p H H') : S4 C H0 p L c l ts rows g H' :=
  ⟨m.old S.same S.np, S.np, m.fed, m.at S.nL S.tl, S.nL, S.ch.mv S.fed m, S.ls.mv S.fed m S.nl, S.nl⟩
theorem S4.grow (S : S4 C H0 p L c l ts rows g H) (s : Same H H') : S4 C H0 p L c l ts rows g H' :=
  ⟨S.same.trans s, S.np, S.fed.same s, s _ _ S.tl, S.nL, S.ch.same s, S.ls.same s, S.nl⟩
end
/-! ### the law's data -/
structure Ok4 (ts : List Str) (rows : List Row) (n : Nat) : Prop where
  len : rows.length ≤ n
  nd : (rows.map (·.1)).Nodup
  inT : ∀ r ∈ rows, r.1 ∈ ts
structure Good1 (t : Str) : Prop where
  pre : OpPre t
  ok : (isNm t || isOp t) = true
  sm : t.length ≤ 20
  so : PyData.strOk t = true
  nv : t ≠ "never"
  ne : t ≠ ""
  odd : ∀ z ∈ odds t, OpPre z ∧ (isNm z || isOp z) = false
theorem so_app {a b : Str} (ha : PyData.strOk a = true) (hb : PyData.strOk b = true) : PyData.strOk (a ++ b) = true := by
  unfold PyData.strOk at ha hb ⊢
  rw [Array.all_eq_true_iff_forall_mem] at ha hb ⊢
  intro c hc
  have h : c ∈ (a ++ b).cps.toList := by simpa using hc
  rw [app_l] at h
  rcases List.mem_append.mp h with q | q
  · exact ha c (by simpa using q)
  · exact hb c (by simpa using q)
theorem so_cut {t : Str} {a b : Option Int} (h : PyData.strOk t = true) : PyData.strOk (cutS t a b) = true := by
  unfold PyData.strOk at h ⊢
  rw [Array.all_eq_true_iff_forall_mem] at h ⊢
  intro c hc
  exact h c (by simpa using cut_mem (by simpa using hc))
theorem so_odd {t : Str} (h : PyData.strOk t = true) : ∀ z ∈ odds t, PyData.strOk z = true := by
  intro z hz
  unfold odds at hz
  simp only [List.mem_cons, List.mem_nil_iff, or_false] at hz
  rcases hz with rfl | rfl | rfl | rfl | rfl | rfl | rfl | rfl
  · exact so_app h (by decide +kernel)
  · decide +kernel
  · exact so_app (by decide +kernel) (so_cut h)
  · exact so_app h (by decide +kernel)
  · exact so_app (by decide +kernel) h
  · exact so_app h (by decide +kernel)
  · exact so_app h (by decide +kernel)
  · exact so_app (so_cut h) (by decide +kernel)
theorem sh2 {a z : Str} (ha : PyData.strOk a = true) (hz : PyData.strOk z = true) : SeqAt.shaped (.tuple [.str a, .str z]) = true := by
  unfold SeqAt.shaped
  rw [Bool.and_eq_true]
  refine ⟨by simp only [PyData.canLay0, PyData.canLayAll0, ha, hz, Bool.and_self], decide_eq_true (by show 1 ≤ 64; decide)⟩
theorem nez2 {a z : Str} (ha : PyData.strOk a = true) (hz : PyData.strOk z = true) : (!PyData.eqv (.tuple [.str a, .str z]) (.tuple [.str a, .str z])) = false := by
  rw [SeqAt.eqv_refl _ (SeqAt.canLay_of_shaped (sh2 ha hz))]
  rfl
def Good (ts : List Str) : Prop := ts.length = 14 ∧ ∀ t ∈ ts, Good1 t
theorem Ok4.fine {ts : List Str} {rows : List Row} {n : Nat} (o : Ok4 ts rows n) (gd : Good ts) (hn : n ≤ 40) : Fine rows where
  len := Nat.le_trans o.len hn
  nd := o.nd
  sm := fun r hr => (gd.2 _ (o.inT r hr)).sm
  ok := fun r hr => (gd.2 _ (o.inT r hr)).so
  nv := fun h => by
    obtain ⟨r, hr, e⟩ := List.mem_map.mp h
    exact (gd.2 _ (o.inT r hr)).nv e
  ne := fun h => by
    obtain ⟨r, hr, e⟩ := List.mem_map.mp h
    exact (gd.2 _ (o.inT r hr)).ne e
theorem Ok4.mono {ts : List Str} {rows : List Row} {n m : Nat} (o : Ok4 ts rows n) (h : n ≤ m) : Ok4 ts rows m := ⟨Nat.le_trans o.len h, o.nd, o.inT⟩
theorem Ok4.put {ts : List Str} {rows : List Row} {n : Nat} {z : Str} {m g : Int} (o : Ok4 ts rows n) (hz : z ∉ rows.map (·.1)) (ht : z ∈ ts) : Ok4 ts (rows ++ [(z, m, g)]) (n + 1) where
  len := by rw [List.length_append]; exact Nat.succ_le_succ o.len
  nd := by
    rw [List.map_append]
    exact List.nodup_append.mpr ⟨o.nd, by simp, fun a ha b hb e => by
      subst e
      have : a = z := by simpa using hb
      exact hz (this ▸ ha)⟩
  inT := fun r hr => by
    rcases List.mem_append.mp hr with h | h
    · exact o.inT r h
    · have : r = (z, m, g) := by simpa using h
      rw [this]; exact ht
theorem Ok4.filter {ts : List Str} {rows : List Row} {n : Nat} (o : Ok4 ts rows n) (q : Row → Bool) : Ok4 ts (rows.filter q) n where
  len := Nat.le_trans (List.length_filter_le _ _) o.len
  nd := o.nd.sublist ((List.filter_sublist).map _)
  inT := fun r hr => o.inT r (List.mem_filter.mp hr).1
theorem sig_small : ∀ c ∈ LETS.cps.toList ++ FIGS.cps.toList, c < 0x110000 := by decide +kernel
theorem nm_strOk {t : Str} (h : isNm t = true) : PyData.strOk t = true := by
  unfold PyData.strOk
  rw [Array.all_eq_true_iff_forall_mem]
  intro c hc
  have q := nm_sig h c (by simpa using hc)
  refine decide_eq_true (sig_small c ?_)
  unfold isSig isLet at q
  rw [List.mem_append]
  rcases Bool.or_eq_true_iff.mp q with q | q
  · exact .inl (of_decide_eq_true q)
  · exact .inr (of_decide_eq_true q)
theorem good1_of {t : Str} (h : isTl t = true) : Good1 t := by
  have hn := isTl_nm h
  have hl := isNm_len hn
  have g := good_nm hn
  exact ⟨g.1, g.2, by omega, nm_strOk hn, isTl_nv h, fun e => by subst e; revert hl; decide +kernel, odd_nm hn⟩
theorem good1_a : Good1 "d.0" := by
  have a := good1
  have b := odd1
  rw [Bool.and_eq_true_iff] at a
  exact ⟨preB_ok a.1, a.2, by decide +kernel, by decide +kernel, by decide +kernel, by decide +kernel, fun z hz => by
    have q := List.all_eq_true.mp b z hz
    rw [Bool.and_eq_true_iff] at q
    exact ⟨preB_ok q.1, by simpa using q.2⟩⟩
theorem good1_b : Good1 "ab.17" := by
  have a := good2
  have b := odd2
  rw [Bool.and_eq_true_iff] at a
  exact ⟨preB_ok a.1, a.2, by decide +kernel, by decide +kernel, by decide +kernel, by decide +kernel, fun z hz => by
    have q := List.all_eq_true.mp b z hz
    rw [Bool.and_eq_true_iff] at q
    exact ⟨preB_ok q.1, by simpa using q.2⟩⟩
theorem good_of {ys : List Str} (h : Tls 12 ys) : Good (ys ++ ([("d.0" : Str), ("ab.17" : Str)] : List Str)) := by
  refine ⟨by rw [List.length_append, h.1]; rfl, fun t ht => ?_⟩
  rcases List.mem_append.mp ht with q | q
  · exact good1_of (h.2.1 t q)
  · simp only [List.mem_cons, List.mem_nil_iff, or_false] at q
    rcases q with rfl | rfl
    · exact good1_a
    · exact good1_b
/-! ### rows with and without a name -/
def qEq (z : Str) : Row → Bool := fun r => decide (V.str r.1 = V.str z)
def qNe (z : Str) : Row → Bool := fun r => !decide (V.str r.1 = V.str z)
theorem filter_in {z : Str} : ∀ {rows : List Row}, (rows.filter (qEq z)).isEmpty = decide (z ∉ rows.map (·.1))
  | [] => rfl
  | r :: rows => by
    rw [List.filter_cons, List.map_cons]
    by_cases e : r.1 = z
    · have q : qEq z r = true := decide_eq_true (by rw [e])
      rw [if_pos q]
      simp [e]
    · have q : qEq z r = false := decide_eq_false (fun h => e (V.str.inj h))
      rw [q, if_neg (by simp), filter_in]
      have e' : ¬ z = r.1 := fun h => e h.symm
      simp [e']
theorem filter_none {z : Str} : ∀ {rows : List Row}, z ∉ rows.map (·.1) → rows.filter (qNe z) = rows := fun {rows} h => by
  rw [List.filter_eq_self]
  intro r hr
  have : r.1 ≠ z := fun e => h (List.mem_map.mpr ⟨r, hr, e⟩)
  show (!decide (V.str r.1 = V.str z)) = true
  rw [decide_eq_false (fun h => this (V.str.inj h))]
  rfl
theorem filter_erase {z : Str} : ∀ {rows : List Row} {j : Nat}, (rows.map (·.1)).Nodup → rows[j]?.map (·.1) = some z → rows.eraseIdx j = rows.filter (qNe z)
  | [], j, _, h => by simp at h
  | r :: rows, 0, nd, h => by
    have e : r.1 = z := by simpa using h
    have nz : z ∉ rows.map (·.1) := by
      rw [List.map_cons, List.nodup_cons] at nd
      rw [← e]
      exact nd.1
    have q : qNe z r = false := by
      show (!decide (V.str r.1 = V.str z)) = false
      rw [decide_eq_true (by rw [e])]
      rfl
    rw [List.filter_cons, q, if_neg (by simp), filter_none nz]
    rfl
  | r :: rows, j + 1, nd, h => by
    have h' : rows[j]?.map (·.1) = some z := by simpa using h
    rw [List.map_cons, List.nodup_cons] at nd
    have ne : r.1 ≠ z := fun e => by
      refine nd.1 ?_
      rw [e]
      cases q : rows[j]? with
      | none => rw [q] at h'; cases h'
      | some x =>
        rw [q] at h'
        exact List.mem_map.mpr ⟨x, List.mem_of_getElem? q, Option.some.inj h'⟩
    have q : qNe z r = true := by
      show (!decide (V.str r.1 = V.str z)) = true
      rw [decide_eq_false (fun h => ne (V.str.inj h))]
      rfl
    rw [List.filter_cons, q, if_pos rfl, List.eraseIdx_cons_succ, filter_erase nd.2 h']
theorem filter_take {q : Row → Bool} {rows : List Row} {i : Nat} {r : Row} (h : rows[i]? = some r) : (rows.take (i + 1)).filter q = (rows.take i).filter q ++ (if q r = true then [r] else []) := by
  rw [List.take_succ, h, List.filter_append]
  congr 1
  show List.filter q [r] = _
  rw [List.filter_cons]
  rfl
/-! ### the rows put in anew -/
def mk : List Row → Int → List Row
  | [], _ => []
  | r :: rs, s => (r.1, r.2.1, s) :: mk rs (s + 1)
theorem mk_names : ∀ {rows : List Row} {s : Int}, (mk rows s).map (·.1) = rows.map (·.1)
  | [], _ => rfl
  | r :: rs, s => by rw [mk, List.map_cons, List.map_cons, mk_names]
theorem mk_len : ∀ {rows : List Row} {s : Int}, (mk rows s).length = rows.length
  | [], _ => rfl
  | r :: rs, s => by rw [mk, List.length_cons, List.length_cons, mk_len]
theorem mk_take : ∀ {rows : List Row} {s : Int} {i : Nat} {r : Row}, rows[i]? = some r → mk (rows.take (i + 1)) s = mk (rows.take i) s ++ [(r.1, r.2.1, s + (i : Nat))]
  | [], _, _, _, h => by simp at h
  | r :: rs, s, 0, r', h => by
    have e : r = r' := by simpa using h
    subst e
    simp [mk]
  | r :: rs, s, i + 1, r', h => by
    have h' : rs[i]? = some r' := by simpa using h
    rw [List.take_succ_cons, List.take_succ_cons, mk, mk, mk_take h', List.cons_append]
    have e : s + 1 + (i : Int) = s + ((i + 1 : Nat) : Int) := by omega
    rw [e]
theorem mk_eq : ∀ {rows : List Row} {s : Nat}, PyData.eqvAll (rows.map fun r => PyData.int r.2.2) ((List.range' s rows.length).map fun (j : Nat) => PyData.int (j : Int)) = decide (mk rows (s : Int) = rows)
  | [], _ => rfl
  | r :: rs, s => by
    have ih := mk_eq (rows := rs) (s := s + 1)
    rw [List.length_cons, List.range'_succ, List.map_cons, List.map_cons, PyData.eqvAll, ih]
    obtain ⟨r1, r2, r3⟩ := r
    simp only [PyData.eqv, mk]
    have e : ((s + 1 : Nat) : Int) = (s : Int) + 1 := by omega
    rw [e, Bool.eq_iff_iff]
    simp
    exact fun _ => ⟨fun a => a.symm, fun a => a.symm⟩
theorem Paired_dp {K : PySem.W.Frag} {H : Hp} : ∀ (l : List Nat), DpAll K H (l.map fun (j : Nat) => V.int (j : Int)) (l.map fun (j : Nat) => PyData.int (j : Int))
  | [] => .nil
  | _ :: l => .cons (.int _) (Paired_dp l)
theorem num_dp {K : PySem.W.Frag} {H : Hp} : ∀ (rows : List Row), DpAll K H (rows.map fun r => V.int r.2.2) (rows.map fun r => PyData.int r.2.2)
  | [] => .nil
  | _ :: l => .cons (.int _) (num_dp l)
theorem intsLay {α : Type} (f : α → Int) : ∀ (l : List α), PyData.canLayAll0 (l.map fun j => PyData.int (f j)) = true ∧ PyData.depthAll (l.map fun j => PyData.int (f j)) = 0
  | [] => ⟨rfl, rfl⟩
  | a :: l => by
    obtain ⟨h1, h2⟩ := intsLay f l
    simp only [List.map_cons, PyData.canLayAll0, PyData.canLay0, h1, Bool.and_self, PyData.depthAll, PyData.depth, h2, Nat.max_self, and_self]
theorem intsShaped {α : Type} (f : α → Int) (l : List α) : SeqAt.shaped (.list (l.map fun j => PyData.int (f j))) = true := by
  obtain ⟨h1, h2⟩ := intsLay f l
  unfold SeqAt.shaped
  rw [Bool.and_eq_true]
  refine ⟨by simp only [PyData.canLay0, h1], decide_eq_true ?_⟩
  simp only [PyData.depth, h2]
  omega
theorem rowsShaped {rows : List Row} (h : ∀ r ∈ rows, PyData.strOk r.1 = true) : SeqAt.shaped (.list (rows.map encR)) = true := by
  unfold SeqAt.shaped
  rw [Bool.and_eq_true]
  refine ⟨by simp only [PyData.canLay0, enc_lay h], decide_eq_true ?_⟩
  have := enc_depth (rows := rows)
  simp only [PyData.depth]
  omega
theorem rowsEmpty {rows : List Row} : PyData.eqv (.list (rows.map encR)) (.list []) = rows.isEmpty := by
  cases rows <;> rfl
/-! ### what a step makes -/
def rows2 (f : Int) (z : Str) (m g : Int) (rows : List Row) : List Row := rows.filter (qNe z) ++ (if f = 0 then [(z, m, g)] else [])
def giv (f g : Int) : Int := g + (if f = 0 then 1 else 0)
theorem dec0i {f : Int} : decide (V.int f = V.int 0) = decide (f = 0) := decide_eq_decide.mpr ⟨fun h => V.int.inj h, fun h => by rw [h]⟩
theorem giv_eq {f g : Int} : g + (if decide (V.int f = V.int 0) = true then 1 else 0) = giv f g := by
  unfold giv
  rw [dec0i]
  by_cases e : f = 0
  · rw [if_pos e, if_pos (decide_eq_true e)]
  · rw [if_neg e, if_neg (by rw [decide_eq_false e]; simp)]
def repA (f : Int) (t : Addr) : List Addr := if f = 0 then [t] else []
theorem rep_eq {f : Int} {t : Addr} : (List.replicate (if decide (V.int f = V.int 0) = true then (1 : Int) else 0).toNat [V.ref t]).flatten = (repA f t).map V.ref := by
  unfold repA
  rw [dec0i]
  by_cases e : f = 0
  · rw [if_pos e, if_pos (decide_eq_true e)]
    rfl
  · rw [if_neg e, if_neg (by rw [decide_eq_false e]; simp)]
    rfl
theorem rep_rows {H : Hp} {f : Int} {t : Addr} {r : Row} (h : RowT H t r) : Rows H (repA f t) (if f = 0 then [r] else []) := by
  unfold repA
  by_cases e : f = 0
  · rw [if_pos e, if_pos e]
    exact .cons h .nil
  · rw [if_neg e, if_neg e]
    exact .nil
theorem step_done {C : Addr} {H : Hp} {Q : VK} {E : XK} {c : Addr} {rows : List Row} {g f m : Int} {z : Str} (f01 : f = 0 ∨ f = 1) (ch : ChAt C H c rows g) (hl : rows.length ≤ 900) (pre : OpPre z) (ok : (isNm z || isOp z) = true)
    (nd : (rows.map (·.1)).Nodup) (hz : f = 0 → z ∉ rows.map (·.1)) (hz' : f = 1 → z ∈ rows.map (·.1))
    (h : ∀ t q H', Same H H' → TpAt H' t "done" (.ref q) → H q = none → ChAt C H' q (rows2 f z m g rows) (giv f g) → Q (.ref t) H') : spStep C [.ref c, .int f, .str z, .int m] H Q E := by
  refine ⟨c, rows, g, f, m, z, rfl, ch, hl, pre, fun _ q => ?_, fun e _ q => ?_, fun e _ q t q' H' s1 ht nq hc => ?_, fun e q => ?_, fun e j h1 _ t q' H' s1 ht nq hc => ?_⟩
  · rw [ok] at q; cases q
  · exact absurd q (hz e)
  · refine h t q' H' s1 ht nq ?_
    unfold rows2 giv
    rw [if_pos e, if_pos e, filter_none q]
    exact hc
  · exact absurd (hz' (f01.resolve_left e)) q
  · refine h t q' H' s1 ht nq ?_
    unfold rows2 giv
    rw [if_neg e, if_neg e, List.append_nil, ← filter_erase nd h1, Int.add_zero]
    exact hc
theorem step_not {C : Addr} {H : Hp} {Q : VK} {E : XK} {c : Addr} {rows : List Row} {g f m : Int} {z : Str} (f01 : f = 0 ∨ f = 1) (ch : ChAt C H c rows g) (hl : rows.length ≤ 900) (pre : OpPre z) (ok : (isNm z || isOp z) = true)
    (hz : f = 0 → z ∈ rows.map (·.1)) (hz' : f = 1 → z ∉ rows.map (·.1))
    (h : ∀ t H', Same H H' → TpAt H' t (if f = 0 then "taken" else "unknown") (.str z) → Q (.ref t) H') : spStep C [.ref c, .int f, .str z, .int m] H Q E := by
  refine ⟨c, rows, g, f, m, z, rfl, ch, hl, pre, fun _ q => ?_, fun e _ q t H' s1 ht => ?_, fun e _ q => ?_, fun e q t H' s1 ht => ?_, fun e j h1 => ?_⟩
  · rw [ok] at q; cases q
  · exact h t H' s1 (by rw [if_pos e]; exact ht)
  · exact absurd (hz e) q
  · exact h t H' s1 (by rw [if_neg e]; exact ht)
  · refine absurd ?_ (hz' (f01.resolve_left e))
    cases q : rows[j]? with
    | none => rw [q] at h1; cases h1
    | some x =>
      rw [q] at h1
      exact List.mem_map.mpr ⟨x, List.mem_of_getElem? q, Option.some.inj h1⟩
theorem Ok4.step {ts : List Str} {rows : List Row} {n : Nat} {f : Int} {z : Str} {m g : Int} (o : Ok4 ts rows n) (hz : f = 0 → z ∉ rows.map (·.1)) (ht : z ∈ ts) : Ok4 ts (rows2 f z m g rows) (n + 1) := by
  unfold rows2
  by_cases e : f = 0
  · rw [if_pos e, filter_none (hz e)]
    exact o.put (hz e) ht
  · rw [if_neg e, List.append_nil]
    exact (o.filter _).mono (Nat.le_succ _)
theorem rows2_ne {rows : List Row} {f : Int} {z : Str} {m g : Int} (hz : f = 0 → z ∉ rows.map (·.1)) (hz' : f ≠ 0 → z ∈ rows.map (·.1)) : rows2 f z m g rows ≠ rows := fun q => by
  unfold rows2 at q
  by_cases e : f = 0
  · rw [if_pos e, filter_none (hz e)] at q
    have := congrArg List.length q
    rw [List.length_append] at this
    simp at this
  · rw [if_neg e, List.append_nil] at q
    obtain ⟨r, hr, er⟩ := List.mem_map.mp (hz' e)
    rw [← q] at hr
    have := (List.mem_filter.mp hr).2
    unfold qNe at this
    rw [decide_eq_true (by rw [er])] at this
    cases this
theorem unseq {t r : TS} {D : Ends} {σ : St} {H1 : Hp} (h : tSeq t r D σ H1) : tSeq Ends.nx (tSeq t r) D σ H1 := h
theorem seq_any {t r : TS} {D : Ends} {σ : St} {H1 : Hp} (Z : St → Hp → Prop) (hZ : ∀ σ' H', Z σ' H' → r D σ' H') (h : (∀ σ' H', Z σ' H' → r D σ' H') → t { D with nx := r D } σ H1) : tSeq t r D σ H1 := h hZ
end Law

set_option Elab.async false
set_option linter.all false
set_option maxRecDepth 100000
set_option maxHeartbeats 4000000
set_option pp.maxSteps 200
set_option pp.deepTerms.threshold 6
namespace Law
open PySem L2
abbrev s_law : Stmt := top 25
theorem sc_law : FnScope ["_law_script", "_law_k", "_law_feed_here", "_law_titles_here", "_law_choices", "_law_rows", "_law_given", "_law_turn", "_law_form", "_law_title", "_law_many", "_law_here", "_law_before", "_law_done", "_law_other", "_law_number", "_law_row"] ["_law_script"] (defScope s_law) := ⟨rfl, rfl, rfl, by decide +kernel, rfl, by decide +kernel, by decide +kernel⟩
def spLaw (K : PySem.W.Frag) : Sp := fun vs H Q _ => ∃ (a : Addr) (ns : List Int), vs = [.ref a] ∧ SqL K H a (ns.map V.int) ∧ ns.length ≤ 63 ∧ ∀ H', Q (.bl true) H'
section
variable {P : Program} {w : World} {K : PySem.W.Frag} {mg : Str → Option Value} {base : Heap} {C Cu Ci Ct : Addr}
structure Ok (P : Program) (w : World) (K : PySem.W.Frag) (mg : Str → Option Value) (base : Heap) (C Cu Ci Ct : Addr) : Prop extends Oh P w K mg base C Cu Ci Ct where
  Choices0 : HasC P w K mg base CX0 1 C "Choices" ["self"] [] (spCInit C)
  m_eq : HasM P w K mg base CX0 1 C "__eq__" ["self", "other"] (spEqC K C)
  law_feed : HasFn P w K mg base CX0 1 "_law_feed" ["_law_script", "_law_k"] (spFeed K)
  law_take : HasFn P w K mg base CX0 1 "_law_take" ["_law_feed_here", "_law_many"] spTk
  law_titles : HasFn P w K mg base CX0 3 "_law_titles" ["_law_feed_here", "_law_many"] spTitles
  law_odd : HasFn P w K mg base CX0 2 "_law_odd" ["_law_feed_here", "_law_title"] spOdd
  law_step : HasFn P w K mg base CX0 5 "_law_step" ["_law_choices", "_law_form", "_law_title", "_law_many"] (spStep C)
  law_unknown : HasFn P w K mg base CX0 5 "_law_unknown" ["_law_choices", "_law_form", "_law_title"] (spUnknown C)
  law_right : HasG P w K mg base CX0 5 "_law_right" ["_law_choices", "_law_rows"] (spRight C)
theorem ok_law {f : Addr} {fd : FuncData} (F : Fun K "law" "law" s_law f fd) (T : Txt5 P w K mg C Cu Ci Ct) (O : Ok P w K mg base C Cu Ci Ct) : FnG P w K mg base CX0 6 f fd ["_law_script"] (spLaw K) := by
  refine F.okG sc_law (fun vs H Q E h => ?_) (fun cdv A outer s H vs Q E hgs hr h => ?_)
  · obtain ⟨a, ns, rfl, _⟩ := h
    rfl
  obtain ⟨a, ns, rfl, hS, hlen, k⟩ := h
  refine ⟨_, (pss_cons (ps_for PassesOwn.never rfl (pi_range1 (by rfl) T.n_range (pa_cons (pe_callB (call_max2 rfl) (by rfl) T.n_max (by decide +kernel) (pa_cons pe_int (pa_cons (pe_callB (call_min2 rfl) (by rfl) T.n_min (by decide +kernel) (pa_cons pe_int (pa_cons (pe_callB call_len_seq (by rfl) T.n_len (by decide +kernel) (pa_cons (pv 0) pa_nil)) pa_nil))) pa_nil))) pa_nil)) (pg_name (i := 1) sc_law.nd rfl (Or.inl rfl))
  (pss_cons (ps_set (i := 2) sc_law.nd rfl (Or.inl rfl) (pe_callO O.law_feed hr (by rfl) pass0 (pa_cons (pv 0) (pa_cons (pv 1) pa_nil))))
    (pss_cons (ps_asg (pe_tup (pa_cons (pe_op op_cat (pe_callO O.law_titles hr (by rfl) pass0 (pa_cons (pv 2) (pa_cons pe_int pa_nil))) (pe_lst (pa_cons pe_str (pa_cons pe_str pa_nil)))) (pa_cons (pe_make0S O.Choices0 hr (by rfl) pass0S) (pa_cons (pe_lst pa_nil) (pa_cons pe_int pa_nil))))) (pg_tup rfl (pgs_cons (pg_name (i := 3) sc_law.nd rfl (Or.inl rfl)) (pgs_cons (pg_name (i := 4) sc_law.nd rfl (Or.inl rfl)) (pgs_cons (pg_name (i := 5) sc_law.nd rfl (Or.inl rfl)) (pgs_cons (pg_name (i := 6) sc_law.nd rfl (Or.inl rfl)) pgs_nil))))))
    (pss_cons (ps_for PassesOwn.never rfl (pi_range1 (by rfl) T.n_range (pa_cons (pe_op op_add pe_int (pe_callO O.law_take hr (by rfl) pass0 (pa_cons (pv 2) (pa_cons pe_int pa_nil)))) pa_nil)) (pg_name (i := 7) sc_law.nd rfl (Or.inl rfl))
    (pss_cons (ps_asg (pe_tup (pa_cons (pe_callTy call_int1 (by rfl) T.n_int (by decide +kernel) (pa_cons (pe_cmpR op_eq (pe_callO O.law_take hr (by rfl) pass0 (pa_cons (pv 2) (pa_cons pe_int pa_nil))) pe_int (nomark _)) pa_nil)) (pa_cons (pe_ix ix_list (pv 3) (pe_callO O.law_take hr (by rfl) pass0 (pa_cons (pv 2) (pa_cons pe_int pa_nil))) (fun _ _ => rfl)) (pa_cons (pe_op op_add pe_int (pe_callO O.law_take hr (by rfl) pass0 (pa_cons (pv 2) (pa_cons pe_int pa_nil)))) pa_nil)))) (pg_tup rfl (pgs_cons (pg_name (i := 8) sc_law.nd rfl (Or.inl rfl)) (pgs_cons (pg_name (i := 9) sc_law.nd rfl (Or.inr rfl)) (pgs_cons (pg_name (i := 10) sc_law.nd rfl (Or.inl rfl)) pgs_nil)))))
      (pss_cons (ps_setLc (i := 11) (own := [("_law_row", 16)]) (g := gName 16) rfl sc_law.nd rfl rfl (sw_true rfl rfl rfl (by decide +kernel)) (pi_list (pv 5)) (blkOk_by (own := [("_law_row", 16)]) (N := ["_law_script", "_law_k", "_law_feed_here", "_law_titles_here", "_law_choices", "_law_rows", "_law_given", "_law_turn", "_law_form", "_law_title", "_law_many", "_law_here", "_law_before", "_law_done", "_law_other", "_law_number", "_law_row"]) (sc := defScope s_law) (by decide +kernel)) (fun _ _ _ _ _ => (pg_name (i := 16) sc_law.nd rfl (Or.inl rfl))) (fun _ _ _ _ _ => (pts_one (pt_cmpR op_eq (pe_ix (r := rIxT K) ix_tup (pv 16) pe_int (fun _ _ => rfl)) (pv 9) (nomark _)))) (fun _ _ _ _ _ => (pv 16)))
      (pss_cons (ps_if (pt_cmpR op_eq (pe_callO O.law_take hr (by rfl) pass0 (pa_cons (pv 2) (pa_cons pe_int pa_nil))) pe_int (nomark _))
      (pss_cons (ps_set (i := 9) sc_law.nd rfl (Or.inr rfl) (pe_callO O.law_odd hr (by rfl) pass0 (pa_cons (pv 2) (pa_cons (pv 9) pa_nil))))
        (pss_one (ps_if (pt_cmpR (op_neD hr.units) (pe_callO O.law_step hr (by rfl) pass0 (pa_cons (pv 4) (pa_cons pe_int (pa_cons (pv 9) (pa_cons (pv 10) pa_nil))))) (pe_tup (pa_cons pe_str (pa_cons (pv 9) pa_nil))) (nomark _))
        (pss_one (ps_ret pe_bl))
        pss_nil)))
      (pss_one (ps_if (pt_cmpR op_eq (pe_cmpR (op_eqD hr.units) (pv 11) (pe_lst pa_nil) (nomark _)) (pe_cmpR op_eq (pv 8) pe_int (nomark _)) (nomark _))
        (pss_one (ps_if (pt_cmpR (op_neD hr.units) (pe_callO O.law_step hr (by rfl) pass0 (pa_cons (pv 4) (pa_cons (pv 8) (pa_cons (pv 9) (pa_cons (pv 10) pa_nil))))) (pe_tup (pa_cons (pe_ix ix_list (pe_lst (pa_cons pe_str (pa_cons pe_str pa_nil))) (pv 8) (fun _ _ => rfl)) (pa_cons (pv 9) pa_nil))) (nomark _))
          (pss_one (ps_ret pe_bl))
          pss_nil))
        (pss_cons (ps_par (i := 12) (j := 13) (by rfl) sc_law.nd rfl rfl (by decide) rfl rfl (pa_cons (pv 4) (pa_cons (pe_callO O.law_step hr (by rfl) pass0 (pa_cons (pv 4) (pa_cons (pv 8) (pa_cons (pv 9) (pa_cons (pv 10) pa_nil))))) pa_nil)) (by rfl))
          (pss_cons (ps_if (PW.pt (pw_or (pt_cmpR op_ne (pe_ix ix_tup (pv 13) pe_int (fun _ _ => rfl)) pe_str (nomark _)) (pw_or1 (pt_not (pt_val (pe_callOG O.law_right hgs hr (by rfl) pass0 (pa_cons (pv 12) (pa_cons (pv 5) pa_nil))))))))
          (pss_one (ps_ret pe_bl))
          pss_nil)
          (pss_cons (ps_set (i := 4) sc_law.nd rfl (Or.inl rfl) (pe_ix ix_tup (pv 13) pe_int (fun _ _ => rfl)))
          (pss_cons (ps_set (i := 5) sc_law.nd rfl (Or.inl rfl) (pe_op op_cat (pe_lc (own := [("_law_row", 16)]) (g := gName 16) (by rfl) sc_law.nd (pi_list (pv 5)) (blkOk_by (own := [("_law_row", 16)]) (N := ["_law_script", "_law_k", "_law_feed_here", "_law_titles_here", "_law_choices", "_law_rows", "_law_given", "_law_turn", "_law_form", "_law_title", "_law_many", "_law_here", "_law_before", "_law_done", "_law_other", "_law_number", "_law_row"]) (sc := defScope s_law) (by decide +kernel)) (fun _ _ _ _ _ => (pg_name (i := 16) sc_law.nd rfl (Or.inl rfl))) (fun _ _ _ _ _ => (pts_one (pt_cmpR op_ne (pe_ix (r := rIxT K) ix_tup (pv 16) pe_int (fun _ _ => rfl)) (pv 9) (nomark _)))) (fun _ _ _ _ _ => (pv 16))) (pe_op op_rep (pe_lst (pa_cons (pe_tup (pa_cons (pv 9) (pa_cons (pv 10) (pa_cons (pv 6) pa_nil)))) pa_nil)) (pe_callTy call_int1 (by rfl) T.n_int (by decide +kernel) (pa_cons (pe_cmpR op_eq (pv 8) pe_int (nomark _)) pa_nil)))))
          (pss_cons (ps_set (i := 6) sc_law.nd rfl (Or.inl rfl) (pe_op op_add (pv 6) (pe_callTy call_int1 (by rfl) T.n_int (by decide +kernel) (pa_cons (pe_cmpR op_eq (pv 8) pe_int (nomark _)) pa_nil))))
          (pss_one (ps_if (PW.pt (pw_or (pt_cmpR (op_ownEq O.m_eq hr pass0) (pv 4) (pv 12) (nomark _)) (pw_or1 (pt_cmpR (op_ownEq O.m_eq hr pass0) (pv 4) (pv 5) (nomark _)))))
          (pss_one (ps_ret pe_bl))
          pss_nil))))))))))
      (pss_one (ps_if (PW.pt (pw_or (pt_not (pt_val (pe_callOG O.law_right hgs hr (by rfl) pass0 (pa_cons (pv 4) (pa_cons (pv 5) pa_nil))))) (pw_or1 (pt_cmpR op_ne (pe_callO O.law_unknown hr (by rfl) pass0 (pa_cons (pv 4) (pa_cons (pv 8) (pa_cons pe_str pa_nil)))) pe_str (nomark _)))))
      (pss_one (ps_ret pe_bl))
      pss_nil))))))
    (pss_cons (ps_set (i := 14) sc_law.nd rfl (Or.inl rfl) (pe_make0S O.Choices0 hr (by rfl) pass0S))
    (pss_cons (ps_for PassesOwn.never rfl (pi_list (pv 5)) (pg_tup rfl (pgs_cons (pg_name (i := 9) sc_law.nd rfl (Or.inr rfl)) (pgs_cons (pg_name (i := 10) sc_law.nd rfl (Or.inl rfl)) (pgs_cons (pg_name (i := 15) sc_law.nd rfl (Or.inl rfl)) pgs_nil))))
    (pss_one (ps_set (i := 14) sc_law.nd rfl (Or.inl rfl) (pe_methW (pv 14) T.cl O.m_put hr passS (pa_cons (pv 9) (pa_cons (pv 10) pa_nil))))))
    (pss_one (ps_if (pt_cmpR op_ne (pe_cmpR (op_ownEq O.m_eq hr pass0) (pv 14) (pv 4) (nomark _)) (pe_cmpR (op_eqD hr.units) (pe_lc (own := [("_law_row", 16)]) (g := gName 16) (tt := tYes) (by rfl) sc_law.nd (pi_list (pv 5)) (blkOk_by (own := [("_law_row", 16)]) (N := ["_law_script", "_law_k", "_law_feed_here", "_law_titles_here", "_law_choices", "_law_rows", "_law_given", "_law_turn", "_law_form", "_law_title", "_law_many", "_law_here", "_law_before", "_law_done", "_law_other", "_law_number", "_law_row"]) (sc := defScope s_law) (by decide +kernel)) (fun _ _ _ _ _ => (pg_name (i := 16) sc_law.nd rfl (Or.inl rfl))) (fun _ _ _ _ _ => pts_nil) (fun _ _ _ _ _ => (pe_ix (r := rIxT K) ix_tup (pv 16) pe_int (fun _ _ => rfl)))) (pe_callTy (call_list_rng rfl) (by rfl) T.n_list (by decide +kernel) (pa_cons (pe_callTy cr_range1 (by rfl) T.n_range (by decide +kernel) (pa_cons (pe_callB call_len_seq (by rfl) T.n_len (by decide +kernel) (pa_cons (pv 5) pa_nil)) pa_nil)) pa_nil)) (nomark _)) (nomark _))
    (pss_one (ps_ret pe_bl))
    pss_nil))))))))
  (pss_one (ps_ret pe_bl))), ?_⟩
  have l1 : (2000 : Nat) ≤ sizeLine := by decide
  refine ⟨_, rfl, a, _, rfl, .inl hS, _, _, rfl, _, _, rfl, _, rfl, by split <;> split <;> omega, by split <;> split <;> omega, for_range (lo := 0) (fun i σ H1 => ∃ v1 v2 v3 v4 v5 v6 v7 v8 v9 v10 v11 v12 v13 v14 v15 v16 : Option V, σ = [some (.ref a), v1, v2, v3, v4, v5, v6, v7, v8, v9, v10, v11, v12, v13, v14, v15, v16] ∧ Same H H1)
    ⟨_, _, _, _, _, _, _, _, _, _, _, _, _, _, _, _, rfl, Same.refl H⟩ ?_ ?_⟩
  rotate_left
  · rintro σ H1 _
    exact k H1
  rintro i σ H1 hi ⟨v1, v2, v3, v4, v5, v6, v7, v8, v9, v10, v11, v12, v13, v14, v15, v16, rfl, s1⟩
  have hi3 : (0 : Int) + (i : Nat) < 1000 := by
    split at hi <;> split at hi <;> omega
  -- the feed
  refine ⟨_, rfl, _, rfl, a, ns, _, rfl, s1.seq hS, hlen, by omega, hi3, fun p own st np o0 u0 u1 => ?_⟩
  have sp := s1.trans (sNew (o := .lst [.int own, .int st]) np)
  have np0 := s1.free np
  have fd0 : Fed p (upd H1 p (.lst [.int own, .int st])) := ⟨own, st, upd_same, o0, u0, u1⟩
  show tSeq _ _ _ _ (upd H1 p (.lst [.int own, .int st]))
  generalize upd H1 p (.lst [.int own, .int st]) = H2 at sp fd0 ⊢
  -- titles, choices, rows
  refine ⟨_, rfl, p, 12, rfl, fd0, by decide, by decide, fun L0 ys H3 m3 nL0 hL0 tls => ⟨by show 2 ≤ sizeLine; decide, fun l2 nl2 => ⟨L0, l2, _, _, rfl, rfl, sNew nl2 _ _ hL0, upd_same, by rw [List.length_map, tls.1]; decide, fun L nL => ?_⟩⟩⟩
  have sL := (m3.old sp np0).trans ((sNew (o := .lst [.str "d.0", .str "ab.17"]) nl2).trans (sNew (o := .lst (ys.map V.str ++ [.str "d.0", .str "ab.17"])) nL))
  have fL : Fed p (upd (upd H3 l2 (.lst [.str "d.0", .str "ab.17"])) L (.lst (ys.map V.str ++ [.str "d.0", .str "ab.17"]))) := m3.fed.same ((sNew nl2).trans (sNew nL))
  have hL : upd (upd H3 l2 (.lst [.str "d.0", .str "ab.17"])) L (.lst (ys.map V.str ++ [.str "d.0", .str "ab.17"])) L = some (.lst ((ys ++ ([("d.0" : Str), ("ab.17" : Str)] : List Str)).map V.str)) := by rw [upd_same, List.map_append]; rfl
  have Lp : L ≠ p := (m3.fed.same (sNew nl2)).ne nL
  generalize upd (upd H3 l2 (.lst [.str "d.0", .str "ab.17"])) L (.lst (ys.map V.str ++ [.str "d.0", .str "ab.17"])) = H4 at sL fL hL ⊢
  have gd := good_of tls
  generalize ys ++ ([("d.0" : Str), ("ab.17" : Str)] : List Str) = ts at hL gd
  clear hL0 tls m3 nl2 nL nL0
  refine fun x dx nx nd nz => ⟨x, dx, rfl, upd_same, fun e0 n0 H5 ne0 nn0 nn but hx5 he5 hn5 => ⟨rfl, by show 0 ≤ sizeLine; decide, fun l nl => ⟨by show 4 ≤ sizeLine; decide, fun t nt => ⟨t, _, rfl, SqT.of upd_same, rfl, _, _, rfl, _, _, rfl, _, _, rfl, _, _, rfl, rfl, ?_⟩⟩⟩⟩
  have s5 : Same H4 H5 := fun b o e => but b o (ne_of_none e nx) (by rw [upd_ne (ne_of_none e nx), upd_ne (ne_of_none e nd)]; exact e)
  have s6 : Same H4 (upd (upd H5 l (.lst [])) t (.tup [.ref L, .ref x, .ref l, .int 0])) := s5.trans ((sNew nl).trans (sNew nt))
  have s7 : Same H5 (upd (upd H5 l (.lst [])) t (.tup [.ref L, .ref x, .ref l, .int 0])) := (sNew nl).trans (sNew nt)
  have S0 : S4 C H p L x l ts [] 0 (upd (upd H5 l (.lst [])) t (.tup [.ref L, .ref x, .ref l, .int 0])) :=
    ⟨sL.trans s6, np0, fL.same s6, s6 _ _ hL, Lp, ⟨dx, e0, n0, s7 _ _ hx5, ⟨[], s7 _ _ he5, .nil⟩, .inl ⟨rfl, s7 _ _ hn5⟩⟩, ⟨[], sNew nt _ _ upd_same, .nil⟩, (fL.same s5).ne nl⟩
  show tSeq _ _ _ _ (upd (upd H5 l (.lst [])) t (.tup [.ref L, .ref x, .ref l, .int 0]))
  generalize upd (upd H5 l (.lst [])) t (.tup [.ref L, .ref x, .ref l, .int 0]) = H6 at S0 ⊢
  clear s6 s7 s5 hx5 he5 hn5 but nn ne0 nn0 nl nt hL fL sL nx nd nz
  -- the turns
  refine ⟨_, rfl, p, 25, rfl, S0.fed, by decide, by decide, fun d H7 m7 d0 d1 => ⟨_, _, rfl, rfl, _, rfl, by omega, by omega, for_range (lo := 0) (fun n σ H8 => ∃ (c l : Addr) (rows : List Row) (g : Int), ∃ v7 v8 v9 v10 v11 v12 v13 v14 v15 v16 : Option V,
    σ = [some (.ref a), some (.int (0 + (i : Nat))), some (.ref p), some (.ref L), some (.ref c), some (.ref l), some (.int g), v7, v8, v9, v10, v11, v12, v13, v14, v15, v16] ∧ S4 C H p L c l ts rows g H8 ∧ Ok4 ts rows n)
    ⟨x, l, [], 0, _, _, _, _, _, _, _, _, _, _, rfl, S0.mv m7, ⟨Nat.le_refl _, List.nodup_nil, fun _ h => by cases h⟩⟩ ?_ ?_⟩⟩
  · rintro n σ H8 hn ⟨c, l, rows, g, v7, v8, v9, v10, v11, v12, v13, v14, v15, v16, rfl, S, ok⟩
    have hn30 : n < 31 := by omega
    clear S0 m7
    refine ⟨_, rfl, p, 3, rfl, S.fed, by decide, by decide, fun d1 H9 m9 d10 d11 => ⟨rfl, .inr ⟨_, rfl, _, rfl, _, rfl, p, 14, rfl, (S.mv m9).fed, by decide, by decide, fun d2 H10 m10 d20 d21 => ?_⟩⟩⟩
    have S2 := (S.mv m9).mv m10
    obtain ⟨j, rfl⟩ : ∃ j : Nat, d2 = (j : Int) := ⟨d2.toNat, by omega⟩
    have hj : j < ts.length := by rw [gd.1]; omega
    have hz : ts[j]? = some ts[j] := List.getElem?_eq_getElem hj
    have zt : ts[j] ∈ ts := List.getElem_mem hj
    refine ⟨L, _, _, .str ts[j], rfl, rfl, SqL.of S2.tl, atI_nat (by rw [List.getElem?_map, hz]; rfl), _, rfl, p, 3, rfl, S2.fed, by decide, by decide, fun d3 H11 m11 d30 d31 => ⟨_, _, rfl, rfl, by show 3 ≤ sizeLine; decide, fun t3 nt3 => ⟨t3, _, rfl, SqT.of upd_same, rfl, _, _, rfl, _, _, rfl, _, _, rfl, rfl, ?_⟩⟩⟩
    have S3 := (S2.mv m11).grow (sNew (o := .tup [.int (if decide (V.int d1 = V.int 0) = true then 1 else 0), .str ts[j], .int (2 + d3)]) nt3)
    show tSeq _ _ _ _ (upd H11 t3 (.tup [.int (if decide (V.int d1 = V.int 0) = true then 1 else 0), .str ts[j], .int (2 + d3)]))
    generalize upd H11 t3 (.tup [.int (if decide (V.int d1 = V.int 0) = true then 1 else 0), .str ts[j], .int (2 + d3)]) = H12 at S3 ⊢
    generalize ef : (if decide (V.int d1 = V.int 0) = true then (1 : Int) else 0) = f
    have f01 : f = 0 ∨ f = 1 := by rw [← ef]; split <;> simp
    have g1 := gd.2 _ zt
    revert zt g1
    generalize ts[j] = z
    intro zt g1
    clear S S2 m9 m10 m11 nt3 hz
    have S := S3
    clear S3
    obtain ⟨us, hl, hU⟩ := id S.ls
    have hlu := hU.len
    have hrn := ok.len
    refine ⟨_, rfl, l, rfl, ⟨_, SqL.of hl⟩, fun D nD => lc_list (xs := us.map V.ref) (fun i H1 => ∃ ws : List Addr, H1 = upd H12 D (.lst (ws.map V.ref)) ∧ Rows H12 ws ((rows.take i).filter (qEq z))) ⟨[], rfl, .nil⟩ (fun i H1 _ ⟨ws, e, _⟩ => by subst e; exact SqL.of (sNew nD _ _ hl)) ?_ ?_⟩
    · rintro i1 y H1 hy ⟨ws, rfl, hW⟩
      rw [List.getElem?_map] at hy
      obtain ⟨t, ht, rfl⟩ : ∃ t, us[i1]? = some t ∧ y = V.ref t := by
        cases e : us[i1]? with
        | none => rw [e] at hy; cases hy
        | some t => rw [e] at hy; exact ⟨t, rfl, (Option.some.inj hy).symm⟩
      obtain ⟨r, hr1, hr2⟩ := hU.at ht
      have hwl := hW.len
      have hwl2 := List.length_filter_le (qEq z) (rows.take i1)
      rw [List.length_take] at hwl2
      refine ⟨rfl, _, rfl, t, _, 0, _, rfl, rfl, SqT.of (sNew nD _ _ hr2), rfl, _, rfl, rfl, _, rfl, ite2 (fun c => ?_) (fun c => ?_)⟩
      · exact ⟨_, rfl, _, upd_same, by rw [List.length_map]; omega, ws ++ [t], by rw [upd_upd, List.map_append]; rfl, by rw [filter_take hr1, if_pos (show qEq z r = true from c)]; exact hW.app (.cons hr2 .nil)⟩
      · exact ⟨ws, rfl, by rw [filter_take hr1, if_neg (show ¬ qEq z r = true from c), List.append_nil]; exact hW⟩
    rintro _ ⟨ws, rfl, hW⟩
    have et : rows.take (us.map V.ref).length = rows := by rw [List.length_map, hlu]; exact List.take_of_length_le (Nat.le_refl _)
    rw [et] at hW
    have S5 := S.grow (sNew (o := .lst (ws.map V.ref)) nD)
    have hD := upd_same (H := H12) (a := D) (o := .lst (ws.map V.ref))
    have hW := hW.same (sNew (o := .lst (ws.map V.ref)) nD)
    have nDp : D ≠ p := S.fed.ne nD
    show tSeq _ _ _ _ (upd H12 D (.lst (ws.map V.ref)))
    generalize upd H12 D (.lst (ws.map V.ref)) = H13 at S5 hD hW ⊢
    clear S nD hl hU hlu et us
    have S := S5
    clear S5
    refine unseq (seq_any (fun σ' H' => ∃ (c' l' : Addr) (rows' : List Row) (g' : Int), ∃ v9 v12 v13 v14 v15 v16 : Option V, σ' = [some (.ref a), some (.int (0 + (i : Nat))), some (.ref p), some (.ref L), some (.ref c'), some (.ref l'), some (.int g'), some (.int (0 + (n : Nat))), some (.int f), v9, some (.int (2 + d3)), some (.ref D), v12, v13, v14, v15, v16] ∧ S4 C H p L c' l' ts rows' g' H' ∧ Ok4 ts rows' (n + 1)) ?_ fun rest => ?_)
    · rintro σ' H' ⟨c', l', rows', g', v9, v12, v13, v14, v15, v16, rfl, S', ok'⟩
      have fi := ok'.fine gd (by omega)
      refine ⟨_, rfl, _, rfl, c', l', rows', g', rfl, S'.ch, S'.ls, fi, fun H5 s5 => ⟨_, rfl, iteF2 rfl ⟨_, rfl, _, rfl, c', rows', g', f, "never", rfl, (S'.grow s5).ch, by have := fi.len; omega, fi.nv, fun H6 s6 => ⟨rfl, _, rfl, iteF2 (by simp) ?_⟩⟩⟩⟩
      exact ⟨c', l', rows', g', _, _, _, _, _, _, _, _, _, _, rfl, (S'.grow s5).grow s6, ok'⟩
    refine ⟨_, rfl, p, 6, rfl, S.fed, by decide, by decide, fun d4 H14 m14 d40 d41 => ⟨rfl, _, rfl, ite2 (fun c4 => ?_) (fun c4 => ?_)⟩⟩
    · -- an odd text
      have S6 := S.mv m14
      refine ⟨_, rfl, _, rfl, p, z, rfl, S6.fed, by have := g1.sm; omega, fun z' H15 m15 hz' => ?_⟩
      have S7 := S6.mv m15
      have od := g1.odd z' hz'
      refine ⟨_, rfl, _, rfl, _, rfl, c, rows, g, 0, 2 + d3, z', rfl, S7.ch, by omega, od.1, fun _ _ t H16 s16 ht => ?_, fun _ q => ?_, fun _ q => ?_, fun q => absurd rfl q, fun q => absurd rfl q⟩
      · refine ⟨_, rfl, by show 2 ≤ sizeLine; decide, fun u nu => ?_⟩
        refine ⟨.tuple [.str "invalid", .str z'], .tuple [.str "invalid", .str z'], .tup (SqT.of (sNew nu _ _ ht)) (.cons (.str _) (.cons (.str _) .nil)), .tup (SqT.of upd_same) (.cons (.str _) (.cons (.str _) .nil)), sh2 (by decide +kernel) (so_odd g1.so z' hz'), sh2 (by decide +kernel) (so_odd g1.so z' hz'), _, rfl, iteF2 (nez2 (by decide +kernel) (so_odd g1.so z' hz')) (rest _ _ ?_)⟩
        exact ⟨c, l, rows, g, _, _, _, _, _, _, rfl, (S7.grow s16).grow (sNew nu), ok.mono (Nat.le_succ _)⟩
      · rw [od.2] at q; cases q
      · rw [od.2] at q; cases q
    -- a title
    have S6 := S.mv m14
    have hD6 := m14.at nDp hD
    have hW6 := hW.mv S.fed m14
    clear S hD hW m14
    have so : ∀ r ∈ rows, PyData.strOk r.1 = true := fun r hr => (gd.2 _ (ok.inT r hr)).so
    have so' : ∀ r ∈ rows.filter (qEq z), PyData.strOk r.1 = true := fun r hr => so r (List.mem_filter.mp hr).1
    refine ⟨_, rfl, by show 0 ≤ sizeLine; decide, fun e ne => ⟨.list ((rows.filter (qEq z)).map encR), .list [], .lst (SqL.of (sNew ne _ _ hD6)) (enc_dp (hW6.same (sNew ne))), .lst (SqL.of upd_same) .nil, rowsShaped so', rfl, ?_⟩⟩
    rw [rowsEmpty, filter_in]
    have S7 := S6.grow (sNew (o := .lst []) ne)
    generalize upd H14 e (.lst []) = H15 at S7 ⊢
    refine ⟨_, rfl, rfl, rfl, _, rfl, ite2 (fun c5 => ?_) (fun c5 => ?_)⟩
    · -- refused
      have c6 := V.bl.inj (of_decide_eq_true c5)
      have hz0 : f = 0 → z ∈ rows.map (·.1) := fun e0 => by
        subst e0
        by_cases q : z ∈ rows.map (·.1)
        · exact q
        · rw [decide_eq_true q] at c6
          cases c6
      have hz1 : f = 1 → z ∉ rows.map (·.1) := fun e1 q => by
        subst e1
        rw [decide_eq_false (fun h => h q)] at c6
        cases c6
      refine ⟨_, rfl, _, rfl, _, rfl, _, rfl, ?_⟩
      dsimp only [tNil]
      refine step_not f01 S7.ch (by omega) g1.pre g1.ok hz0 hz1 fun t H16 s16 ht => ?_
      refine ⟨by show 2 ≤ sizeLine; decide, fun e2 ne2 => ⟨_, rfl, e2, _, _, .str (if f = 0 then "taken" else "unknown"), rfl, rfl, SqL.of upd_same, (by rcases f01 with rfl | rfl <;> rfl), _, rfl, by show 2 ≤ sizeLine; decide, fun u nu => ?_⟩⟩
      have sa : PyData.strOk (if f = 0 then "taken" else "unknown") = true := by rcases f01 with rfl | rfl <;> decide +kernel
      revert ht sa
      generalize (if f = 0 then ("taken" : Str) else "unknown") = w1
      intro ht sa
      refine ⟨.tuple [.str w1, .str z], .tuple [.str w1, .str z], .tup (SqT.of (sNew nu _ _ (sNew ne2 _ _ ht))) (.cons (.str _) (.cons (.str _) .nil)), .tup (SqT.of upd_same) (.cons (.str _) (.cons (.str _) .nil)), sh2 sa g1.so, sh2 sa g1.so, _, rfl, iteF2 (nez2 sa g1.so) (rest _ _ ?_)⟩
      exact ⟨c, l, rows, g, _, _, _, _, _, _, rfl, ((S7.grow s16).grow (sNew ne2)).grow (sNew nu), ok.mono (Nat.le_succ _)⟩
    -- done
    have c6 : ¬ (decide (z ∉ rows.map (·.1)) = decide (V.int f = V.int 1)) := fun q => c5 (decide_eq_true (by rw [q]))
    have hz0 : f = 0 → z ∉ rows.map (·.1) := fun e0 q => by
      subst e0
      refine c6 ?_
      rw [decide_eq_false (fun h => h q)]
      rfl
    have hz1 : f = 1 → z ∈ rows.map (·.1) := fun e1 => by
      subst e1
      by_cases q : z ∈ rows.map (·.1)
      · exact q
      · refine absurd ?_ c6
        rw [decide_eq_true q]
        rfl
    have hz2 : f ≠ 0 → z ∈ rows.map (·.1) := fun e => hz1 (f01.resolve_left e)
    refine ⟨_, rfl, _, rfl, _, rfl, _, rfl, _, rfl, ?_⟩
    dsimp only [tNil]
    refine step_done f01 S7.ch (by omega) g1.pre g1.ok ok.nd hz0 hz1 fun t q H16 s16 ht nq hc => ⟨_, _, rfl, ?_⟩
    have S8 := S7.grow s16
    have fi := ok.fine gd (by omega)
    refine ⟨_, rfl, t, _, 0, .str "done", rfl, rfl, SqT.of ht, rfl, rfl, _, rfl, iteF2 (notSelf _) ⟨_, rfl, _, rfl, c, l, rows, g, rfl, S8.ch, S8.ls, fi, fun H17 s17 => ⟨_, rfl, iteF2 rfl ?_⟩⟩⟩
    have S9 := S8.grow s17
    have hc9 := hc.same s17
    refine ⟨_, rfl, t, _, 1, .ref q, rfl, rfl, SqT.of (s17 _ _ ht), rfl, ?_⟩
    obtain ⟨us, hl, hU⟩ := id S9.ls
    have hlu := hU.len
    clear S8 S7 S6 hD6 hW6 s16 s17 ht
    refine ⟨_, rfl, l, rfl, ⟨_, SqL.of hl⟩, fun D2 nD2 => lc_list (xs := us.map V.ref) (fun i H1 => ∃ ws : List Addr, H1 = upd H17 D2 (.lst (ws.map V.ref)) ∧ Rows H17 ws ((rows.take i).filter (qNe z))) ⟨[], rfl, .nil⟩ (fun i H1 _ ⟨ws, e, _⟩ => by subst e; exact SqL.of (sNew nD2 _ _ hl)) ?_ ?_⟩
    · rintro i1 y H1 hy ⟨ws, rfl, hW⟩
      rw [List.getElem?_map] at hy
      obtain ⟨t, ht, rfl⟩ : ∃ t, us[i1]? = some t ∧ y = V.ref t := by
        cases e : us[i1]? with
        | none => rw [e] at hy; cases hy
        | some t => rw [e] at hy; exact ⟨t, rfl, (Option.some.inj hy).symm⟩
      obtain ⟨r, hr1, hr2⟩ := hU.at ht
      have hwl := hW.len
      have hwl2 := List.length_filter_le (qNe z) (rows.take i1)
      rw [List.length_take] at hwl2
      refine ⟨rfl, _, rfl, t, _, 0, _, rfl, rfl, SqT.of (sNew nD2 _ _ hr2), rfl, _, rfl, rfl, _, rfl, ite2 (fun c => ?_) (fun c => ?_)⟩
      · exact ⟨_, rfl, _, upd_same, by rw [List.length_map]; omega, ws ++ [t], by rw [upd_upd, List.map_append]; rfl, by rw [filter_take hr1, if_pos (show qNe z r = true from c)]; exact hW.app (.cons hr2 .nil)⟩
      · exact ⟨ws, rfl, by rw [filter_take hr1, if_neg (show ¬ qNe z r = true from c), List.append_nil]; exact hW⟩
    rintro _ ⟨ws, rfl, hW⟩
    have et : rows.take (us.map V.ref).length = rows := by rw [List.length_map, hlu]; exact List.take_of_length_le (Nat.le_refl _)
    rw [et] at hW
    have hwl := hW.len
    have hwl2 := List.length_filter_le (qNe z) rows
    refine ⟨_, rfl, _, rfl, _, rfl, by show 3 ≤ sizeLine; decide, fun t5 nt5 => ⟨by show 1 ≤ sizeLine; decide, fun l3 nl3 => ⟨_, rfl, rfl, .inr ⟨_, rfl, l3, _, _, rfl, rfl, upd_same, by split <;> decide, by split <;> decide, by split <;> (show 1 * _ ≤ sizeLine; decide), fun l4 nl4 => ⟨D2, l4, _, _, rfl, rfl, sNew nl4 _ _ (sNew nl3 _ _ (sNew nt5 _ _ upd_same)), upd_same, ?_, fun l5 nl5 => ?_⟩⟩⟩⟩⟩
    · rw [List.length_map]
      split <;> simp <;> omega
    rw [rep_eq, ← List.map_append]
    have s18 := (sNew (o := .lst (ws.map V.ref)) nD2).trans ((sNew (o := .tup [.str z, .int (2 + d3), .int g]) nt5).trans ((sNew (o := .lst [.ref t5]) nl3).trans ((sNew (o := .lst ((List.replicate (if decide (V.int f = V.int 0) = true then (1 : Int) else 0).toNat [V.ref t5]).flatten)) nl4).trans (sNew (o := .lst ((ws ++ repA f t5).map V.ref)) nl5))))
    have ht5 := (sNew (o := .lst [.ref t5]) nl3).trans ((sNew (o := .lst ((List.replicate (if decide (V.int f = V.int 0) = true then (1 : Int) else 0).toNat [V.ref t5]).flatten)) nl4).trans (sNew (o := .lst ((ws ++ repA f t5).map V.ref)) nl5)) _ _ (upd_same (H := upd H17 D2 (.lst (ws.map V.ref))) (a := t5) (o := .tup [.str z, .int (2 + d3), .int g]))
    rw [rep_eq] at s18 ht5
    have hl5 := upd_same (H := upd (upd (upd (upd H17 D2 (.lst (ws.map V.ref))) t5 (.tup [.str z, .int (2 + d3), .int g])) l3 (.lst [.ref t5])) l4 (.lst ((repA f t5).map V.ref))) (a := l5) (o := .lst ((ws ++ repA f t5).map V.ref))
    have l5p : l5 ≠ p := (((((S9.fed.same (sNew nD2)).same (sNew nt5)).same (sNew nl3)).same (sNew nl4))).ne nl5
    show tSeq _ _ _ _ (upd (upd (upd (upd (upd H17 D2 (.lst (ws.map V.ref))) t5 (.tup [.str z, .int (2 + d3), .int g])) l3 (.lst [.ref t5])) l4 (.lst ((repA f t5).map V.ref))) l5 (.lst ((ws ++ repA f t5).map V.ref)))
    generalize upd (upd (upd (upd (upd H17 D2 (.lst (ws.map V.ref))) t5 (.tup [.str z, .int (2 + d3), .int g])) l3 (.lst [.ref t5])) l4 (.lst ((repA f t5).map V.ref))) l5 (.lst ((ws ++ repA f t5).map V.ref)) = H18 at s18 ht5 hl5 ⊢
    clear nD2 nt5 nl3 nl4 nl5
    have S10 := S9.grow s18
    have S11 : S4 C H p L q l5 ts (rows2 f z (2 + d3) g rows) (g + (if decide (V.int f = V.int 0) = true then 1 else 0)) H18 := by
      rw [giv_eq]
      exact ⟨S10.same, S10.np, S10.fed, S10.tl, S10.nL, hc9.same s18, ⟨_, hl5, (hW.same s18).app (rep_rows ht5)⟩, l5p⟩
    have ok2 : Ok4 ts (rows2 f z (2 + d3) g rows) (n + 1) := ok.step hz0 zt
    have rne := rows2_ne (m := 2 + d3) (g := g) hz0 hz2
    generalize rows2 f z (2 + d3) g rows = rw2 at S11 ok2 rne
    have rk : RowsOk rows := ⟨by omega, so⟩
    have rk2 : RowsOk rw2 := ⟨by have := ok2.len; omega, fun r hr => (gd.2 _ (ok2.inT r hr)).so⟩
    refine ⟨_, rfl, _, rfl, rfl, .inr ⟨_, rfl, _, _, rfl, rfl, ?_⟩⟩
    obtain ⟨dq, tq, uq, hq, _, _⟩ := id S11.ch
    obtain ⟨dc, tc, uc, hcc, _, _⟩ := id S10.ch
    have tyC : TyX K H18 (.ref c) (.ref C) := .base (.ins hcc T.cl T.ca T.cb T.cc T.cd)
    have nfC : PySem.W.notFirst K C (.ref C) = true := by simp [PySem.W.notFirst]
    refine ⟨_, rfl, _, rfl, q, dq, _, .ref C, rfl, hq, tyC, nfC, q, rw2, _, .ref c, rfl, S11.ch, rk2, .inl ⟨c, rows, g, rfl, S10.ch, rk, _, rfl, iteF2 (decide_eq_false rne) ?_⟩⟩
    refine ⟨_, rfl, _, rfl, q, dq, _, .type "list", rfl, hq, .base (.lst hl5), T.nfL, q, rw2, _, .ref l5, rfl, S11.ch, rk2, .inr ⟨_, .base (.lst hl5), T.kL, _, rfl, iteF (rest _ _ ?_)⟩⟩
    exact ⟨q, l5, rw2, _, _, _, _, _, _, _, rfl, S11, ok2⟩
  · rintro σ H8 ⟨c, l, rows, g, v7, v8, v9, v10, v11, v12, v13, v14, v15, v16, rfl, S, ok⟩
    clear S0 m7
    have so : ∀ r ∈ rows, PyData.strOk r.1 = true := fun r hr => (gd.2 _ (ok.inT r hr)).so
    have hrl := ok.len
    refine fun x dx nx nd nz => ⟨x, dx, rfl, upd_same, fun e0 n0 H9 ne0 nn0 nn but hx9 he9 hn9 => ⟨rfl, ?_⟩⟩
    have s9 : Same H8 H9 := fun b o e => but b o (ne_of_none e nx) (by rw [upd_ne (ne_of_none e nx), upd_ne (ne_of_none e nd)]; exact e)
    have S2 := S.grow s9
    have ch0 : ChAt C H9 x (mk (rows.take 0) 0) ((0 : Nat) : Int) := ⟨dx, e0, n0, hx9, ⟨[], he9, .nil⟩, .inl ⟨rfl, hn9⟩⟩
    clear S s9 hx9 he9 hn9 but nn ne0 nn0 nx nd nz
    obtain ⟨us, hl, hU⟩ := id S2.ls
    have hlu := hU.len
    refine ⟨_, rfl, l, rfl, ⟨_, SqL.of hl⟩, for_list (xs := us.map V.ref) (fun i1 σ H2 => ∃ (o : Addr) (v9 v10 v15 : Option V), σ = [some (.ref a), some (.int (0 + (i : Nat))), some (.ref p), some (.ref L), some (.ref c), some (.ref l), some (.int g), v7, v8, v9, v10, v11, v12, v13, some (.ref o), v15, v16] ∧ Same H9 H2 ∧ ChAt C H2 o (mk (rows.take i1) 0) ((i1 : Nat) : Int)) ⟨x, _, _, _, rfl, Same.refl _, ch0⟩ (fun i1 σ H2 _ ⟨_, _, _, _, _, s2, _⟩ => SqL.of (s2 _ _ hl)) ?_ ?_⟩
    · rintro i1 y σ H2 hy ⟨o, v9, v10, v15, rfl, s2, ch⟩
      rw [List.getElem?_map] at hy
      obtain ⟨t, ht, rfl⟩ : ∃ t, us[i1]? = some t ∧ y = V.ref t := by
        cases e : us[i1]? with
        | none => rw [e] at hy; cases hy
        | some t => rw [e] at hy; exact ⟨t, rfl, (Option.some.inj hy).symm⟩
      obtain ⟨r, hr1, hr2⟩ := hU.at ht
      have g1 := gd.2 _ (ok.inT r (List.mem_of_getElem? hr1))
      have nz : r.1 ∉ (mk (rows.take i1) 0).map (·.1) := by
        rw [mk_names, List.map_take]
        intro q
        obtain ⟨m, hm, em⟩ := List.mem_take_iff_getElem.mp q
        have hi1 : i1 < (rows.map (·.1)).length := by
          rw [List.length_map]
          exact (List.getElem?_eq_some_iff.mp hr1).1
        have e2 : (rows.map (·.1))[i1]? = some r.1 := by rw [names_get, hr1]; rfl
        have e1 : (rows.map (·.1))[m]? = some r.1 := by rw [← em]; exact List.getElem?_eq_getElem _
        have := (List.getElem?_inj (by omega) ok.nd).mp (e1.trans e2.symm)
        omega
      have hml : (mk (rows.take i1) 0).length ≤ 900 := by rw [mk_len, List.length_take]; omega
      obtain ⟨do_, to_, uo, ho, _, _⟩ := id ch
      refine ⟨t, _, rfl, SqT.of (s2 _ _ hr2), rfl, _, _, rfl, _, _, rfl, _, _, rfl, rfl, ?_⟩
      refine ⟨_, rfl, o, do_, _, rfl, ho, cf_no (by decide +kernel) (by decide +kernel) (by decide +kernel), _, rfl, _, rfl, o, mk (rows.take i1) 0, _, _, r.1, rfl, ch, hml, g1.pre, fun q => ?_, fun _ q => absurd q nz, fun _ _ q H' s' nq ch' => ?_⟩
      · rw [g1.ok] at q; cases q
      · refine ⟨q, _, _, _, rfl, s2.trans s', ?_⟩
        rw [mk_take hr1, Int.zero_add]
        exact ch'
    rintro σ H2 ⟨o, v9, v10, v15, rfl, s2, ch⟩
    have et : rows.take (us.map V.ref).length = rows := by rw [List.length_map, hlu]; exact List.take_of_length_le (Nat.le_refl _)
    rw [et] at ch
    have S3 := S2.grow s2
    have hl2 := s2 _ _ hl
    have hU2 := hU.same s2
    obtain ⟨do_, to_, uo, ho, _, _⟩ := id ch
    obtain ⟨dc, tc, uc, hcc, _, _⟩ := id S3.ch
    have tyC : TyX K H2 (.ref c) (.ref C) := .base (.ins hcc T.cl T.ca T.cb T.cc T.cd)
    have nfC : PySem.W.notFirst K C (.ref C) = true := by simp [PySem.W.notFirst]
    have rk : RowsOk rows := ⟨by omega, so⟩
    have rk2 : RowsOk (mk rows 0) := ⟨by rw [mk_len]; omega, fun r hr => by
      have : r.1 ∈ (mk rows 0).map (·.1) := List.mem_map.mpr ⟨r, hr, rfl⟩
      rw [mk_names] at this
      obtain ⟨r', hr', e⟩ := List.mem_map.mp this
      rw [← e]
      exact so r' hr'⟩
    refine ⟨_, rfl, _, rfl, o, do_, _, .ref C, rfl, ho, tyC, nfC, o, mk rows 0, _, .ref c, rfl, ch, rk2, .inl ⟨c, rows, g, rfl, S3.ch, rk, ?_⟩⟩
    refine ⟨_, rfl, l, rfl, ⟨_, SqL.of hl2⟩, fun D nD => lc_list (xs := us.map V.ref) (fun i H1 => H1 = upd H2 D (.lst ((rows.take i).map fun r => V.int r.2.2))) (by simp) (fun i H1 _ e => by subst e; exact SqL.of (sNew nD _ _ hl2)) ?_ ?_⟩
    · rintro i1 y H1 hy rfl
      rw [List.getElem?_map] at hy
      obtain ⟨t, ht, rfl⟩ : ∃ t, us[i1]? = some t ∧ y = V.ref t := by
        cases e : us[i1]? with
        | none => rw [e] at hy; cases hy
        | some t => rw [e] at hy; exact ⟨t, rfl, (Option.some.inj hy).symm⟩
      obtain ⟨r, hr1, hr2⟩ := hU2.at ht
      refine ⟨rfl, ?_⟩
      simp only [tYes, if_true]
      refine ⟨_, rfl, t, _, 2, _, rfl, rfl, SqT.of (sNew nD _ _ hr2), rfl, _, upd_same, ?_, ?_⟩
      · rw [List.length_map, List.length_take]
        omega
      · rw [upd_upd, List.take_succ, hr1, List.map_append]
        rfl
    rintro _ rfl
    rw [et]
    refine ⟨_, rfl, l, _, rfl, .inl (SqL.of (sNew nD _ _ hl2)), _, rfl, fun r nr => ?_⟩
    refine ⟨r, (us.map V.ref).length, rfl, upd_same, by rw [List.length_map, hlu]; omega, fun e ne => ?_⟩
    refine ⟨.list (rows.map fun r => PyData.int r.2.2), .list ((List.range (us.map V.ref).length).map fun (j : Nat) => PyData.int (j : Int)), .lst (SqL.of (sNew ne _ _ (sNew nr _ _ upd_same))) (num_dp rows), .lst (SqL.of upd_same) (Paired_dp _), intsShaped (fun r : Row => r.2.2) rows, intsShaped (fun j : Nat => (j : Int)) _, ?_⟩
    have eq : PyData.eqv (.list (rows.map fun r => PyData.int r.2.2)) (.list ((List.range (us.map V.ref).length).map fun (j : Nat) => PyData.int (j : Int))) = decide (mk rows 0 = rows) := by
      rw [PyData.eqv, List.length_map, hlu, List.range_eq_range']
      exact mk_eq (s := 0)
    rw [eq]
    refine ⟨rfl, _, rfl, iteF2 (notSelf _) ?_⟩
    exact ⟨_, _, _, _, _, _, _, _, _, _, _, _, _, _, _, _, rfl, ((S3.grow (sNew nD)).grow (sNew nr)).grow (sNew ne) |>.same⟩
end
end Law

set_option Elab.async false
set_option linter.all false
set_option maxRecDepth 100000
set_option maxHeartbeats 4000000
namespace Law
open PySem L2
abbrev c_UnknownName : Stmt := inClass (top 5) 0
abbrev c_InvalidName : Stmt := inClass (top 3) 0
abbrev c_Taken : Stmt := inClass (top 4) 0
theorem allB {l : List Bool} (h : l.all id = true) {b : Bool} (i : Nat) (e : l[i]? = some b) : b = true := List.all_eq_true.mp h b (List.mem_of_getElem? e)
theorem allD {l : List Bool} (h : l.all id = true) {p : Prop} [Decidable p] (i : Nat) (e : l[i]? = some (decide p)) : p := of_decide_eq_true (allB h i e)
abbrev chL (K : PySem.W.Frag) (C fI fG fM C0 C1 C2 : Addr) : List Bool := [
  PySem.W.plainGet K C Str.empty,
  PySem.W.hasDictIn K C,
  PySem.W.plainOver K C,
  decide (PySem.W.findIn K (.ref C) "__setattr__" = some (some (.builtin "object.__setattr__"))),
  decide (PySem.W.findIn K (.ref C) "entries" = some none),
  decide (PySem.W.findIn K (.ref C) "names" = some none),
  decide (PySem.W.findIn K (.ref C) "given" = some none),
  decide (PySem.W.findIn K (.ref C) "__class__" = some (some (.builtin "object.__class__"))),
  decide (PySem.W.specialIn K (.builtin "object.__class__") "__get__" = some (some (.builtin "getset_descriptor.__get__"))),
  decide (PySem.W.takesIn K (.builtin "object.__class__") = some true),
  decide (PySem.W.mroIn K C (.type "object") = some true),
  decide (PySem.W.kitOne K (.ref C) (.ref C) = some true),
  decide (PySem.W.kitOne K (.type "list") (.ref C) = some false),
  PySem.W.notFirst K C (.type "list"),
  decide (PySem.W.exmOne K (.ref C1) (.ref C1) = some true),
  decide (PySem.W.exmOne K (.ref C2) (.ref C1) = some false),
  decide (PySem.W.exmOne K (.ref C2) (.ref C2) = some true),
  decide (PySem.W.exmOne K (.ref C0) (.ref C1) = some false),
  decide (PySem.W.exmOne K (.ref C0) (.ref C2) = some false),
  decide (PySem.W.exmOne K (.ref C0) (.ref C0) = some true),
  PySem.W.fnIn K fG,
  PySem.W.makesIn K C,
  PySem.W.isFn K (.ref fI),
  PySem.W.keepIn K (.ref C),
  decide (PySem.W.specialIn K (.ref C) "__getattribute__" = some (some (.builtin "type.__getattribute__"))),
  PySem.W.fnIn K fM]
def chB (K : PySem.W.Frag) (C fI fG fM C0 C1 C2 : Addr) : Bool := (chL K C fI fG fM C0 C1 C2).all id
theorem all_mk {w : World} {K : PySem.W.Frag} {h : Heap} {mg : Str → Option Value} {fa C fI fM pM f_number Td f_feed f_take f_mixed f_titles f_same f_step f_unknown f_right f_odd f_isname f_opened f_law f_ceq f_clen f_cin f_cget f_cplace f_cnumber f_cput f_cwithout C0 I0 cc0 ca0 C1 I1 cc1 ca1 C2 I2 cc2 ca2 : Addr} {oc_feed kV_feed dc_feed pm_feed cd_feed ct_feed oc_take kV_take dc_take pm_take cd_take ct_take oc_mixed kV_mixed dc_mixed pm_mixed cd_mixed ct_mixed oc_titles kV_titles dc_titles pm_titles cd_titles ct_titles oc_same kV_same dc_same pm_same cd_same ct_same oc_step kV_step dc_step pm_step cd_step ct_step oc_unknown kV_unknown dc_unknown pm_unknown cd_unknown ct_unknown oc_right kV_right dc_right pm_right cd_right ct_right oc_odd kV_odd dc_odd pm_odd cd_odd ct_odd oc_isname kV_isname dc_isname pm_isname cd_isname ct_isname oc_opened kV_opened dc_opened pm_opened cd_opened ct_opened oc_law kV_law dc_law pm_law cd_law ct_law oc_number kV_number dc_number pm_number cd_number ct_number tdc oc_cinit kV_cinit dc_cinit pm_cinit cd_cinit ct_cinit oc_cmade kV_cmade dc_cmade pm_cmade cd_cmade ct_cmade oc_ceq kV_ceq dc_ceq pm_ceq cd_ceq ct_ceq oc_clen kV_clen dc_clen pm_clen cd_clen ct_clen oc_cin kV_cin dc_cin pm_cin cd_cin ct_cin oc_cget kV_cget dc_cget pm_cget cd_cget ct_cget oc_cplace kV_cplace dc_cplace pm_cplace cd_cplace ct_cplace oc_cnumber kV_cnumber dc_cnumber pm_cnumber cd_cnumber ct_cnumber oc_cput kV_cput dc_cput pm_cput cd_cput ct_cput oc_cwithout kV_cwithout dc_cwithout pm_cwithout cd_cwithout ct_cwithout xoc0 xdc0 xpm0 xct0 xcl0 xccl0 xoc1 xdc1 xpm1 xct1 xcl1 xccl1 xoc2 xdc2 xpm2 xct2 xcl2 xccl2 : Value} {od_feed an_feed od_take an_take od_mixed an_mixed od_titles an_titles od_same an_same od_step an_step od_unknown an_unknown od_right an_right od_odd an_odd od_isname an_isname od_opened an_opened od_law an_law od_number an_number tdd od_cinit an_cinit od_cmade an_cmade od_ceq an_ceq od_clen an_clen od_cin an_cin od_cget an_cget od_cplace an_cplace od_cnumber an_cnumber od_cput an_cput od_cwithout an_cwithout xod0 xan0 xcld0 xcdd0 xod1 xan1 xcld1 xcdd1 xod2 xan2 xcld2 xcdd2 : Option Addr} {sl_feed sl_take sl_mixed sl_titles sl_same sl_step sl_unknown sl_right sl_odd sl_isname sl_opened sl_law sl_number tds sl_cinit sl_cmade sl_ceq sl_clen sl_cin sl_cget sl_cplace sl_cnumber sl_cput sl_cwithout xosl0 xcsl0 xccs0 xosl1 xcsl1 xccs1 xosl2 xcsl2 xccs2 : Array (Option Value)} {its xvs0 xvs1 xvs2 : Array Value} {tdn : Nat} {mrest : List Value} {tL tF tM : Tok}
    (X : K.In h) (G : h.Ns mainGlobals mg) (hfa : mg "law" = some (.ref fa))
    (a_feed : PySem.W.nsIn K mainGlobals "_law_feed" = some (some (.ref f_feed)))
    (l_feed : K.lookup f_feed = some ⟨oc_feed, od_feed, .func (PySem.W.fnOf "_law_feed" "_law_feed" (defArgs s_feed) (defBody s_feed) (defScope s_feed) .none kV_feed dc_feed pm_feed an_feed cd_feed ct_feed), sl_feed⟩)
    (c_feed : PySem.W.codeIn K cd_feed "_law_feed" = true)
    (k_feed : PySem.W.keepIn K (.ref f_feed) = true)
    (a_take : PySem.W.nsIn K mainGlobals "_law_take" = some (some (.ref f_take)))
    (l_take : K.lookup f_take = some ⟨oc_take, od_take, .func (PySem.W.fnOf "_law_take" "_law_take" (defArgs s_take) (defBody s_take) (defScope s_take) .none kV_take dc_take pm_take an_take cd_take ct_take), sl_take⟩)
    (c_take : PySem.W.codeIn K cd_take "_law_take" = true)
    (k_take : PySem.W.keepIn K (.ref f_take) = true)
    (a_mixed : PySem.W.nsIn K mainGlobals "_law_mixed" = some (some (.ref f_mixed)))
    (l_mixed : K.lookup f_mixed = some ⟨oc_mixed, od_mixed, .func (PySem.W.fnOf "_law_mixed" "_law_mixed" (defArgs s_mixed) (defBody s_mixed) (defScope s_mixed) .none kV_mixed dc_mixed pm_mixed an_mixed cd_mixed ct_mixed), sl_mixed⟩)
    (c_mixed : PySem.W.codeIn K cd_mixed "_law_mixed" = true)
    (k_mixed : PySem.W.keepIn K (.ref f_mixed) = true)
    (a_titles : PySem.W.nsIn K mainGlobals "_law_titles" = some (some (.ref f_titles)))
    (l_titles : K.lookup f_titles = some ⟨oc_titles, od_titles, .func (PySem.W.fnOf "_law_titles" "_law_titles" (defArgs s_titles) (defBody s_titles) (defScope s_titles) .none kV_titles dc_titles pm_titles an_titles cd_titles ct_titles), sl_titles⟩)
    (c_titles : PySem.W.codeIn K cd_titles "_law_titles" = true)
    (k_titles : PySem.W.keepIn K (.ref f_titles) = true)
    (a_same : PySem.W.nsIn K mainGlobals "_law_same" = some (some (.ref f_same)))
    (l_same : K.lookup f_same = some ⟨oc_same, od_same, .func (PySem.W.fnOf "_law_same" "_law_same" (defArgs s_same) (defBody s_same) (defScope s_same) .none kV_same dc_same pm_same an_same cd_same ct_same), sl_same⟩)
    (c_same : PySem.W.codeIn K cd_same "_law_same" = true)
    (k_same : PySem.W.keepIn K (.ref f_same) = true)
    (a_step : PySem.W.nsIn K mainGlobals "_law_step" = some (some (.ref f_step)))
    (l_step : K.lookup f_step = some ⟨oc_step, od_step, .func (PySem.W.fnOf "_law_step" "_law_step" (defArgs s_step) (defBody s_step) (defScope s_step) .none kV_step dc_step pm_step an_step cd_step ct_step), sl_step⟩)
    (c_step : PySem.W.codeIn K cd_step "_law_step" = true)
    (k_step : PySem.W.keepIn K (.ref f_step) = true)
    (a_unknown : PySem.W.nsIn K mainGlobals "_law_unknown" = some (some (.ref f_unknown)))
    (l_unknown : K.lookup f_unknown = some ⟨oc_unknown, od_unknown, .func (PySem.W.fnOf "_law_unknown" "_law_unknown" (defArgs s_unknown) (defBody s_unknown) (defScope s_unknown) .none kV_unknown dc_unknown pm_unknown an_unknown cd_unknown ct_unknown), sl_unknown⟩)
    (c_unknown : PySem.W.codeIn K cd_unknown "_law_unknown" = true)
    (k_unknown : PySem.W.keepIn K (.ref f_unknown) = true)
    (a_right : PySem.W.nsIn K mainGlobals "_law_right" = some (some (.ref f_right)))
    (l_right : K.lookup f_right = some ⟨oc_right, od_right, .func (PySem.W.fnOf "_law_right" "_law_right" (defArgs s_right) (defBody s_right) (defScope s_right) .none kV_right dc_right pm_right an_right cd_right ct_right), sl_right⟩)
    (c_right : PySem.W.codeIn K cd_right "_law_right" = true)
    (k_right : PySem.W.keepIn K (.ref f_right) = true)
    (a_odd : PySem.W.nsIn K mainGlobals "_law_odd" = some (some (.ref f_odd)))
    (l_odd : K.lookup f_odd = some ⟨oc_odd, od_odd, .func (PySem.W.fnOf "_law_odd" "_law_odd" (defArgs s_odd) (defBody s_odd) (defScope s_odd) .none kV_odd dc_odd pm_odd an_odd cd_odd ct_odd), sl_odd⟩)
    (c_odd : PySem.W.codeIn K cd_odd "_law_odd" = true)
    (k_odd : PySem.W.keepIn K (.ref f_odd) = true)
    (a_isname : PySem.W.nsIn K mainGlobals "is_name" = some (some (.ref f_isname)))
    (l_isname : K.lookup f_isname = some ⟨oc_isname, od_isname, .func (PySem.W.fnOf "is_name" "is_name" (defArgs s_isname) (defBody s_isname) (defScope s_isname) .none kV_isname dc_isname pm_isname an_isname cd_isname ct_isname), sl_isname⟩)
    (c_isname : PySem.W.codeIn K cd_isname "is_name" = true)
    (k_isname : PySem.W.keepIn K (.ref f_isname) = true)
    (a_opened : PySem.W.nsIn K mainGlobals "is_opened_name" = some (some (.ref f_opened)))
    (l_opened : K.lookup f_opened = some ⟨oc_opened, od_opened, .func (PySem.W.fnOf "is_opened_name" "is_opened_name" (defArgs s_opened) (defBody s_opened) (defScope s_opened) .none kV_opened dc_opened pm_opened an_opened cd_opened ct_opened), sl_opened⟩)
    (c_opened : PySem.W.codeIn K cd_opened "is_opened_name" = true)
    (k_opened : PySem.W.keepIn K (.ref f_opened) = true)
    (a_law : PySem.W.nsIn K mainGlobals "law" = some (some (.ref f_law)))
    (l_law : K.lookup f_law = some ⟨oc_law, od_law, .func (PySem.W.fnOf "law" "law" (defArgs s_law) (defBody s_law) (defScope s_law) .none kV_law dc_law pm_law an_law cd_law ct_law), sl_law⟩)
    (c_law : PySem.W.codeIn K cd_law "law" = true)
    (k_law : PySem.W.keepIn K (.ref f_law) = true)
    (a_number : PySem.W.nsIn K mainGlobals "number_in" = some (some (.ref f_number)))
    (l_number : K.lookup f_number = some ⟨oc_number, od_number, .func (PySem.W.fnOf "number_in" "number_in" (defArgs s_number) (defBody s_number) (defScope s_number) (.ref Td) kV_number dc_number pm_number an_number cd_number ct_number), sl_number⟩)
    (c_number : PySem.W.codeIn K cd_number "number_in" = true)
    (k_number : PySem.W.keepIn K (.ref f_number) = true)
    (lT : K.lookup Td = some ⟨tdc, tdd, .seq its tdn, tds⟩)
    (iT : ∃ tk, its = [Value.int 18 tk].toArray)
    (aC : PySem.W.nsIn K mainGlobals "Choices" = some (some (.ref C)))
    (iC : PySem.W.findIn K (.ref C) "__init__" = some (some (.ref fI)))
    (l_cinit : K.lookup fI = some ⟨oc_cinit, od_cinit, .func (PySem.W.fnOf "__init__" "Choices.__init__" (defArgs s_cinit) (defBody s_cinit) (defScope s_cinit) .none kV_cinit dc_cinit pm_cinit an_cinit cd_cinit ct_cinit), sl_cinit⟩)
    (c_cinit : PySem.W.codeIn K cd_cinit "Choices.__init__" = true)
    (k_cinit : PySem.W.keepIn K (.ref fI) = true)
    (mF : PySem.W.findCls K (.ref C) (.type "type") "made" = some (.get (.builtin "classmethod.__get__") (.ref pM) .none (.ref C)))
    (mR : PySem.W.readsIn K C (.type "type") = true)
    (mG : PySem.W.recIn K pM "classmethod" = some (.ref fM :: mrest))
    (l_cmade : K.lookup fM = some ⟨oc_cmade, od_cmade, .func (PySem.W.fnOf "made" "Choices.made" (defArgs s_cmade) (defBody s_cmade) (defScope s_cmade) .none kV_cmade dc_cmade pm_cmade an_cmade cd_cmade ct_cmade), sl_cmade⟩)
    (c_cmade : PySem.W.codeIn K cd_cmade "Choices.made" = true)
    (k_cmade : PySem.W.keepIn K (.ref fM) = true)
    (a_ceq : PySem.W.findIn K (.ref C) "__eq__" = some (some (.ref f_ceq)))
    (i_ceq : PySem.W.isFn K (.ref f_ceq) = true)
    (l_ceq : K.lookup f_ceq = some ⟨oc_ceq, od_ceq, .func (PySem.W.fnOf "__eq__" "Choices.__eq__" (defArgs s_ceq) (defBody s_ceq) (defScope s_ceq) .none kV_ceq dc_ceq pm_ceq an_ceq cd_ceq ct_ceq), sl_ceq⟩)
    (c_ceq : PySem.W.codeIn K cd_ceq "Choices.__eq__" = true)
    (k_ceq : PySem.W.keepIn K (.ref f_ceq) = true)
    (a_clen : PySem.W.findIn K (.ref C) "__len__" = some (some (.ref f_clen)))
    (i_clen : PySem.W.isFn K (.ref f_clen) = true)
    (l_clen : K.lookup f_clen = some ⟨oc_clen, od_clen, .func (PySem.W.fnOf "__len__" "Choices.__len__" (defArgs s_clen) (defBody s_clen) (defScope s_clen) .none kV_clen dc_clen pm_clen an_clen cd_clen ct_clen), sl_clen⟩)
    (c_clen : PySem.W.codeIn K cd_clen "Choices.__len__" = true)
    (k_clen : PySem.W.keepIn K (.ref f_clen) = true)
    (a_cin : PySem.W.findIn K (.ref C) "__contains__" = some (some (.ref f_cin)))
    (i_cin : PySem.W.isFn K (.ref f_cin) = true)
    (l_cin : K.lookup f_cin = some ⟨oc_cin, od_cin, .func (PySem.W.fnOf "__contains__" "Choices.__contains__" (defArgs s_cin) (defBody s_cin) (defScope s_cin) .none kV_cin dc_cin pm_cin an_cin cd_cin ct_cin), sl_cin⟩)
    (c_cin : PySem.W.codeIn K cd_cin "Choices.__contains__" = true)
    (k_cin : PySem.W.keepIn K (.ref f_cin) = true)
    (a_cget : PySem.W.findIn K (.ref C) "__getitem__" = some (some (.ref f_cget)))
    (i_cget : PySem.W.isFn K (.ref f_cget) = true)
    (l_cget : K.lookup f_cget = some ⟨oc_cget, od_cget, .func (PySem.W.fnOf "__getitem__" "Choices.__getitem__" (defArgs s_cget) (defBody s_cget) (defScope s_cget) .none kV_cget dc_cget pm_cget an_cget cd_cget ct_cget), sl_cget⟩)
    (c_cget : PySem.W.codeIn K cd_cget "Choices.__getitem__" = true)
    (k_cget : PySem.W.keepIn K (.ref f_cget) = true)
    (a_cplace : PySem.W.findIn K (.ref C) "place" = some (some (.ref f_cplace)))
    (i_cplace : PySem.W.isFn K (.ref f_cplace) = true)
    (l_cplace : K.lookup f_cplace = some ⟨oc_cplace, od_cplace, .func (PySem.W.fnOf "place" "Choices.place" (defArgs s_cplace) (defBody s_cplace) (defScope s_cplace) .none kV_cplace dc_cplace pm_cplace an_cplace cd_cplace ct_cplace), sl_cplace⟩)
    (c_cplace : PySem.W.codeIn K cd_cplace "Choices.place" = true)
    (k_cplace : PySem.W.keepIn K (.ref f_cplace) = true)
    (a_cnumber : PySem.W.findIn K (.ref C) "number" = some (some (.ref f_cnumber)))
    (i_cnumber : PySem.W.isFn K (.ref f_cnumber) = true)
    (l_cnumber : K.lookup f_cnumber = some ⟨oc_cnumber, od_cnumber, .func (PySem.W.fnOf "number" "Choices.number" (defArgs s_cnumber) (defBody s_cnumber) (defScope s_cnumber) .none kV_cnumber dc_cnumber pm_cnumber an_cnumber cd_cnumber ct_cnumber), sl_cnumber⟩)
    (c_cnumber : PySem.W.codeIn K cd_cnumber "Choices.number" = true)
    (k_cnumber : PySem.W.keepIn K (.ref f_cnumber) = true)
    (a_cput : PySem.W.findIn K (.ref C) "put" = some (some (.ref f_cput)))
    (i_cput : PySem.W.isFn K (.ref f_cput) = true)
    (l_cput : K.lookup f_cput = some ⟨oc_cput, od_cput, .func (PySem.W.fnOf "put" "Choices.put" (defArgs s_cput) (defBody s_cput) (defScope s_cput) .none kV_cput dc_cput pm_cput an_cput cd_cput ct_cput), sl_cput⟩)
    (c_cput : PySem.W.codeIn K cd_cput "Choices.put" = true)
    (k_cput : PySem.W.keepIn K (.ref f_cput) = true)
    (a_cwithout : PySem.W.findIn K (.ref C) "without" = some (some (.ref f_cwithout)))
    (i_cwithout : PySem.W.isFn K (.ref f_cwithout) = true)
    (l_cwithout : K.lookup f_cwithout = some ⟨oc_cwithout, od_cwithout, .func (PySem.W.fnOf "without" "Choices.without" (defArgs s_cwithout) (defBody s_cwithout) (defScope s_cwithout) .none kV_cwithout dc_cwithout pm_cwithout an_cwithout cd_cwithout ct_cwithout), sl_cwithout⟩)
    (c_cwithout : PySem.W.codeIn K cd_cwithout "Choices.without" = true)
    (k_cwithout : PySem.W.keepIn K (.ref f_cwithout) = true)
    (xa0 : PySem.W.nsIn K mainGlobals "UnknownName" = some (some (.ref C0)))
    (xi0 : PySem.W.findIn K (.ref C0) "__init__" = some (some (.ref I0)))
    (xl0 : K.lookup I0 = some ⟨xoc0, xod0, .func (PySem.W.ksFn "__init__" "UnknownName.__init__" (defArgs c_UnknownName) (defBody c_UnknownName) (defScope c_UnknownName) .none .none xdc0 xpm0 xan0 (.ref ca0) xct0 cc0), xosl0⟩)
    (xc0 : K.lookup cc0 = some ⟨xcl0, xcld0, .cell (some (.ref C0)), xcsl0⟩)
    (xk0 : K.lookup ca0 = some ⟨xccl0, xcdd0, .fields xvs0, xccs0⟩)
    (xd0 : PySem.W.codeIn K (.ref ca0) "UnknownName.__init__" = true)
    (xb0 : ownB K C0 I0 "LookupError.__new__" "KeyError" "KeyError.__init__" PySem.XS.keT ["name"] = true)
    (xv0 : ∃ tf, xvs0[2]? = some (.str "/claim/cut.py" tf))
    (xa1 : PySem.W.nsIn K mainGlobals "InvalidName" = some (some (.ref C1)))
    (xi1 : PySem.W.findIn K (.ref C1) "__init__" = some (some (.ref I1)))
    (xl1 : K.lookup I1 = some ⟨xoc1, xod1, .func (PySem.W.ksFn "__init__" "InvalidName.__init__" (defArgs c_InvalidName) (defBody c_InvalidName) (defScope c_InvalidName) .none .none xdc1 xpm1 xan1 (.ref ca1) xct1 cc1), xosl1⟩)
    (xc1 : K.lookup cc1 = some ⟨xcl1, xcld1, .cell (some (.ref C1)), xcsl1⟩)
    (xk1 : K.lookup ca1 = some ⟨xccl1, xcdd1, .fields xvs1, xccs1⟩)
    (xd1 : PySem.W.codeIn K (.ref ca1) "InvalidName.__init__" = true)
    (xb1 : ownB K C1 I1 "ValueError.__new__" "ValueError" "ValueError.__init__" PySem.XS.veT ["name"] = true)
    (xv1 : ∃ tf, xvs1[2]? = some (.str "/claim/cut.py" tf))
    (xa2 : PySem.W.nsIn K mainGlobals "Taken" = some (some (.ref C2)))
    (xi2 : PySem.W.findIn K (.ref C2) "__init__" = some (some (.ref I2)))
    (xl2 : K.lookup I2 = some ⟨xoc2, xod2, .func (PySem.W.ksFn "__init__" "Taken.__init__" (defArgs c_Taken) (defBody c_Taken) (defScope c_Taken) .none .none xdc2 xpm2 xan2 (.ref ca2) xct2 cc2), xosl2⟩)
    (xc2 : K.lookup cc2 = some ⟨xcl2, xcld2, .cell (some (.ref C2)), xcsl2⟩)
    (xk2 : K.lookup ca2 = some ⟨xccl2, xcdd2, .fields xvs2, xccs2⟩)
    (xd2 : PySem.W.codeIn K (.ref ca2) "Taken.__init__" = true)
    (xb2 : ownB K C2 I2 "ValueError.__new__" "ValueError" "ValueError.__init__" PySem.XS.veT ["name"] = true)
    (xv2 : ∃ tf, xvs2[2]? = some (.str "/claim/cut.py" tf))
    (mL : PySem.W.nsIn K mainGlobals "LETTERS" = some (some (.str "abcdefghijklmnopqrstuvwxyz" tL)))
    (mN : PySem.W.nsIn K mainGlobals "FIGURES" = some (some (.str "0123456789" tF)))
    (mS : PySem.W.nsIn K mainGlobals "MOST_SIGNS" = some (some (.int 6 tM)))
    (z_tuple : PySem.W.nsIn K mainGlobals "tuple" = some none)
    (z_len : PySem.W.nsIn K mainGlobals "len" = some none)
    (z_isinstance : PySem.W.nsIn K mainGlobals "isinstance" = some none)
    (z_range : PySem.W.nsIn K mainGlobals "range" = some none)
    (z_list : PySem.W.nsIn K mainGlobals "list" = some none)
    (z_int : PySem.W.nsIn K mainGlobals "int" = some none)
    (z_max : PySem.W.nsIn K mainGlobals "max" = some none)
    (z_min : PySem.W.nsIn K mainGlobals "min" = some none)
    (z_str : PySem.W.nsIn K mainGlobals "str" = some none)
    (z_all : PySem.W.nsIn K mainGlobals "all" = some none)
    (z_abs : PySem.W.nsIn K mainGlobals "abs" = some none)
    (z_repr : PySem.W.nsIn K mainGlobals "repr" = some none)
    (rt : chB K C fI f_cget fM C0 C1 C2 = true) :
    ∃ fd : FuncData, (∀ (s : Shared) (v : Value), BindsTo s fd ⟨[v], []⟩ [("_law_script", v)]) ∧ ∀ base : Heap, K.In base → base.Ns mainGlobals mg → FnG PySem.Challenge.pw_hadnot_k04_choices w K mg base CX0 6 fa fd ["_law_script"] (spLaw K) := by
  have e := hfa.symm.trans (PySem.W.mg_of X G a_law)
  cases e
  have nn : ∀ x, PySem.W.nsIn K mainGlobals x = some none → mg x = none := fun x z => PySem.W.mg_none_of X G z
  obtain ⟨tk, rfl⟩ := iT
  obtain ⟨tf0, xv0⟩ := xv0
  have X0 : Xc PySem.Challenge.pw_hadnot_k04_choices w K mg "UnknownName" C0 ["name"] := L2.xc1 (f := "name") (w := w) (st := c_UnknownName) PySem.XS.bas_KE X G xa0 xl0 xc0 xk0 xd0 xb0 xv0 (by decide +kernel) (by decide +kernel) rfl rfl rfl rfl (by decide) (by decide) (by decide) (by decide) (fun s a b vs d m n t hl => match vs, hl with | [_, _], _ => BindsTo.of_eq rfl)
  obtain ⟨tf1, xv1⟩ := xv1
  have X1 : Xc PySem.Challenge.pw_hadnot_k04_choices w K mg "InvalidName" C1 ["name"] := L2.xc1 (f := "name") (w := w) (st := c_InvalidName) PySem.XS.bas_VE X G xa1 xl1 xc1 xk1 xd1 xb1 xv1 (by decide +kernel) (by decide +kernel) rfl rfl rfl rfl (by decide) (by decide) (by decide) (by decide) (fun s a b vs d m n t hl => match vs, hl with | [_, _], _ => BindsTo.of_eq rfl)
  obtain ⟨tf2, xv2⟩ := xv2
  have X2 : Xc PySem.Challenge.pw_hadnot_k04_choices w K mg "Taken" C2 ["name"] := L2.xc1 (f := "name") (w := w) (st := c_Taken) PySem.XS.bas_VE X G xa2 xl2 xc2 xk2 xd2 xb2 xv2 (by decide +kernel) (by decide +kernel) rfl rfl rfl rfl (by decide) (by decide) (by decide) (by decide) (fun s a b vs d m n t hl => match vs, hl with | [_, _], _ => BindsTo.of_eq rfl)
  have T4 : Txt4 PySem.Challenge.pw_hadnot_k04_choices w K mg C C0 C1 C2 := ⟨⟨allB rt 0 rfl, allB rt 1 rfl, allB rt 2 rfl, allD rt 3 rfl⟩, allD (p := PySem.W.findIn K (.ref C) "entries" = some none) rt 4 rfl, allD (p := PySem.W.findIn K (.ref C) "names" = some none) rt 5 rfl, allD (p := PySem.W.findIn K (.ref C) "given" = some none) rt 6 rfl, PySem.W.mg_of X G aC, X0, X1, X2, nn _ z_tuple, nn _ z_len, nn _ z_isinstance, nn _ z_range, nn _ z_list, nn _ z_int, nn _ z_max, nn _ z_min, allD rt 7 rfl, allD rt 8 rfl, allD rt 9 rfl, allD rt 10 rfl, allD rt 11 rfl, allD rt 12 rfl, allB rt 13 rfl⟩
  have T5 : Txt5 PySem.Challenge.pw_hadnot_k04_choices w K mg C C0 C1 C2 := ⟨T4, allD rt 14 rfl, allD rt 15 rfl, allD rt 16 rfl, allD rt 17 rfl, allD rt 18 rfl, allD rt 19 rfl, fun f hf => by
    rw [a_cget] at hf
    cases hf
    exact allB rt 20 rfl⟩
  have M : Mk K C fI := ⟨allB rt 21 rfl, iC, allB rt 22 rfl, allB rt 23 rfl⟩
  have B : Blt mg := ⟨nn _ z_len, nn _ z_abs, nn _ z_repr⟩
  have Tn' : Tn mg tL tF tM := ⟨PySem.W.mg_of X G mL, PySem.W.mg_of X G mN, PySem.W.mg_of X G mS, nn _ z_isinstance, nn _ z_str, nn _ z_len, nn _ z_all⟩
  have FD : FunD K "number_in" "number_in" (defArgs s_number) (defBody s_number) (defScope s_number) [V.int 18] [] f_number _ := ⟨⟨_, _, _, _, _, _, _, _, _, _, rfl, l_number, c_number, .inr ⟨by simp, _, _, [Value.int 18 tk], _, rfl, lT, rfl, .cons ⟨_, rfl⟩ .nil⟩, .inl rfl⟩, k_number⟩
  obtain ⟨ds2, vd2, bd2⟩ := FD.binds1 (ps := ["text", "most"]) 2 1 (by simp) rfl (fun _ _ _ _ _ _ _ us its h1 h2 => match us, its, h1, h2 with | [_, _], [_], _, _ => ⟨_, rfl, rfl⟩)
  obtain rfl : ds2 = [] := by cases vd2; rfl
  refine ⟨_, fun s v => .of_eq rfl, fun base _ _ => ok_law (fun_mk (st := s_law) l_law c_law k_law) T5 ?_⟩
  have hI := ok_cinit (base := base) (fun_mk (st := s_cinit) l_cinit c_cinit k_cinit) T4
  have C0' : HasC PySem.Challenge.pw_hadnot_k04_choices w K mg base CX0 1 C "Choices" ["self"] [] (spCInit C) := ⟨_, _, _, hI, M, PySem.W.mg_of X G aC, (fun_mk (st := s_cinit) l_cinit c_cinit k_cinit).binds fun _ _ _ _ _ _ us hl => match us, hl with | [_], _ => rfl, .nil⟩
  have hM := ok_cmade (base := base) (fun_mk (st := s_cmade) l_cmade c_cmade k_cmade) T4 ⟨C0'⟩
  have CM : HasCM PySem.Challenge.pw_hadnot_k04_choices w K mg base CX0 3 C "made" ["cls", "rows", "given"] (spMade C) := ⟨_, _, .type "type", pM, hM, ⟨mR, allD rt 24 rfl⟩, ⟨mF, ⟨_, mG⟩, allB rt 25 rfl⟩, (fun_mk (st := s_cmade) l_cmade c_cmade k_cmade).binds fun _ _ _ _ _ _ us hl => match us, hl with | [_, _, _], _ => rfl⟩
  have hP := ok_cplace (base := base) (defM_mk a_cplace i_cplace l_cplace c_cplace k_cplace) T4
  have hN := ok_isname (base := base) (w := w) (P := PySem.Challenge.pw_hadnot_k04_choices) (def_mk X G a_isname l_isname c_isname k_isname) Tn'
  have hNum : HasFn PySem.Challenge.pw_hadnot_k04_choices w K mg base CX0 1 "number_in" ["text", "most"] spNum := ⟨_, _, ok_number FD Tn' (nn _ z_int), PySem.W.mg_of X G a_number, k_number, bd2⟩
  have hOp := ok_opened (base := base) (def_mk X G a_opened l_opened c_opened k_opened) ⟨hN, hNum⟩
  have G' : Og PySem.Challenge.pw_hadnot_k04_choices w K mg base C C0 := ⟨⟨hP⟩, CM, hN, hOp⟩
  have hEq := ok_ceq (base := base) (defM_mk a_ceq i_ceq l_ceq c_ceq k_ceq) T4
  have O' : Oh PySem.Challenge.pw_hadnot_k04_choices w K mg base C C0 C1 C2 := ⟨ok_cput (defM_mk a_cput i_cput l_cput c_cput k_cput) T4 G', ok_cwithout (defM_mk a_cwithout i_cwithout l_cwithout c_cwithout k_cwithout) T4 G', ok_cget (defM_mk a_cget i_cget l_cget c_cget k_cget) T4 ⟨hP⟩, ok_cnumber (defM_mk a_cnumber i_cnumber l_cnumber c_cnumber k_cnumber) T4 ⟨hP⟩⟩
  have hTk := ok_tk (ok_take (base := base) (w := w) (P := PySem.Challenge.pw_hadnot_k04_choices) (def_mk X G a_take l_take c_take k_take))
  have hTa : Ta PySem.Challenge.pw_hadnot_k04_choices w K mg base := ⟨hTk, nn _ z_list, nn _ z_len, nn _ z_range, nn _ z_str, nn _ z_int⟩
  have hMix := ok_mixed (base := base) (def_mk X G a_mixed l_mixed c_mixed k_mixed) hTa
  exact ⟨O', C0', hEq, ok_feed (def_mk X G a_feed l_feed c_feed k_feed) B, hTk, ok_titles (def_mk X G a_titles l_titles c_titles k_titles) ⟨hTa, hMix⟩, ok_odd (def_mk X G a_odd l_odd c_odd k_odd) ⟨hTk⟩, ok_step (def_mk X G a_step l_step c_step k_step) T5 O', ok_unknown (def_mk X G a_unknown l_unknown c_unknown k_unknown) T5 O', ok_right (def_mk X G a_right l_right c_right k_right) T5 ⟨O', ok_same (def_mk X G a_same l_same c_same k_same) B, ok_clen (defM_mk a_clen i_clen l_clen c_clen k_clen) T4, ok_cin (defM_mk a_cin i_cin l_cin c_cin k_cin) T4⟩⟩
end Law

set_option Elab.async false
set_option linter.all false
open PySem PySem.W PyProof.Rows in
set_option maxRecDepth 100000 in
set_option maxHeartbeats 0 in
theorem PySem.Challenge.cw_hadnot_k04_choices_holds : PySem.Challenge.rw_hadnot_k04_choices.Holds := by
  w_on; o_law; k_head; (case hw => w_witness2)
  k_fill
  refine L2.walk_ofG (l := PySem.Challenge.rw_hadnot_k04_choices) (n := 63) (k := 6) (x := "_law_script") (sp := Law.spLaw) rfl (by decide) rfl ⟨rfl, by decide, by decide⟩ (fun w h Y => PySem.W.kIn_of Y) ?F (fun K H a ns hl _ hS => ⟨a, ns, rfl, hS, hl, fun _ => rfl⟩)
  case F =>
    intro w mg fa h KX G hmg
    refine' Law.all_mk KX G hmg ?a_feed ?l_feed ?c_feed ?k_feed ?a_take ?l_take ?c_take ?k_take ?a_mixed ?l_mixed ?c_mixed ?k_mixed ?a_titles ?l_titles ?c_titles ?k_titles ?a_same ?l_same ?c_same ?k_same ?a_step ?l_step ?c_step ?k_step ?a_unknown ?l_unknown ?c_unknown ?k_unknown ?a_right ?l_right ?c_right ?k_right ?a_odd ?l_odd ?c_odd ?k_odd ?a_isname ?l_isname ?c_isname ?k_isname ?a_opened ?l_opened ?c_opened ?k_opened ?a_law ?l_law ?c_law ?k_law ?a_number ?l_number ?c_number ?k_number ?lT ?iT ?aC ?iC ?l_cinit ?c_cinit ?k_cinit ?mF ?mR ?mG ?l_cmade ?c_cmade ?k_cmade ?a_ceq ?i_ceq ?l_ceq ?c_ceq ?k_ceq ?a_clen ?i_clen ?l_clen ?c_clen ?k_clen ?a_cin ?i_cin ?l_cin ?c_cin ?k_cin ?a_cget ?i_cget ?l_cget ?c_cget ?k_cget ?a_cplace ?i_cplace ?l_cplace ?c_cplace ?k_cplace ?a_cnumber ?i_cnumber ?l_cnumber ?c_cnumber ?k_cnumber ?a_cput ?i_cput ?l_cput ?c_cput ?k_cput ?a_cwithout ?i_cwithout ?l_cwithout ?c_cwithout ?k_cwithout ?xa0 ?xi0 ?xl0 ?xc0 ?xk0 ?xd0 ?xb0 ?xv0 ?xa1 ?xi1 ?xl1 ?xc1 ?xk1 ?xd1 ?xb1 ?xv1 ?xa2 ?xi2 ?xl2 ?xc2 ?xk2 ?xd2 ?xb2 ?xv2 ?mL ?mN ?mS ?z_tuple ?z_len ?z_isinstance ?z_range ?z_list ?z_int ?z_max ?z_min ?z_str ?z_all ?z_abs ?z_repr ?rt
    (case a_feed => k_is)
    (case l_feed => k_is)
    (case c_feed => k_is)
    (case k_feed => k_is)
    (case a_take => k_is)
    (case l_take => k_is)
    (case c_take => k_is)
    (case k_take => k_is)
    (case a_mixed => k_is)
    (case l_mixed => k_is)
    (case c_mixed => k_is)
    (case k_mixed => k_is)
    (case a_titles => k_is)
    (case l_titles => k_is)
    (case c_titles => k_is)
    (case k_titles => k_is)
    (case a_same => k_is)
    (case l_same => k_is)
    (case c_same => k_is)
    (case k_same => k_is)
    (case a_step => k_is)
    (case l_step => k_is)
    (case c_step => k_is)
    (case k_step => k_is)
    (case a_unknown => k_is)
    (case l_unknown => k_is)
    (case c_unknown => k_is)
    (case k_unknown => k_is)
    (case a_right => k_is)
    (case l_right => k_is)
    (case c_right => k_is)
    (case k_right => k_is)
    (case a_odd => k_is)
    (case l_odd => k_is)
    (case c_odd => k_is)
    (case k_odd => k_is)
    (case a_isname => k_is)
    (case l_isname => k_is)
    (case c_isname => k_is)
    (case k_isname => k_is)
    (case a_opened => k_is)
    (case l_opened => k_is)
    (case c_opened => k_is)
    (case k_opened => k_is)
    (case a_law => k_is)
    (case l_law => k_is)
    (case c_law => k_is)
    (case k_law => k_is)
    (case a_number => k_is)
    (case l_number => k_is)
    (case c_number => k_is)
    (case k_number => k_is)
    (case lT => k_is)
    (case iT => exact ⟨_, rfl⟩)
    (case aC => k_is)
    (case iC => k_is)
    (case l_cinit => k_is)
    (case c_cinit => k_is)
    (case k_cinit => k_is)
    (case mF => k_is)
    (case mR => k_is)
    (case mG => k_is)
    (case l_cmade => k_is)
    (case c_cmade => k_is)
    (case k_cmade => k_is)
    (case a_ceq => k_is)
    (case i_ceq => k_is)
    (case l_ceq => k_is)
    (case c_ceq => k_is)
    (case k_ceq => k_is)
    (case a_clen => k_is)
    (case i_clen => k_is)
    (case l_clen => k_is)
    (case c_clen => k_is)
    (case k_clen => k_is)
    (case a_cin => k_is)
    (case i_cin => k_is)
    (case l_cin => k_is)
    (case c_cin => k_is)
    (case k_cin => k_is)
    (case a_cget => k_is)
    (case i_cget => k_is)
    (case l_cget => k_is)
    (case c_cget => k_is)
    (case k_cget => k_is)
    (case a_cplace => k_is)
    (case i_cplace => k_is)
    (case l_cplace => k_is)
    (case c_cplace => k_is)
    (case k_cplace => k_is)
    (case a_cnumber => k_is)
    (case i_cnumber => k_is)
    (case l_cnumber => k_is)
    (case c_cnumber => k_is)
    (case k_cnumber => k_is)
    (case a_cput => k_is)
    (case i_cput => k_is)
    (case l_cput => k_is)
    (case c_cput => k_is)
    (case k_cput => k_is)
    (case a_cwithout => k_is)
    (case i_cwithout => k_is)
    (case l_cwithout => k_is)
    (case c_cwithout => k_is)
    (case k_cwithout => k_is)
    (case xa0 => k_is)
    (case xi0 => k_is)
    (case xl0 => k_is)
    (case xc0 => k_is)
    (case xk0 => k_is)
    (case xd0 => k_is)
    (case xb0 => kernel_rfl)
    (case xv0 => exact ⟨_, rfl⟩)
    (case xa1 => k_is)
    (case xi1 => k_is)
    (case xl1 => k_is)
    (case xc1 => k_is)
    (case xk1 => k_is)
    (case xd1 => k_is)
    (case xb1 => kernel_rfl)
    (case xv1 => exact ⟨_, rfl⟩)
    (case xa2 => k_is)
    (case xi2 => k_is)
    (case xl2 => k_is)
    (case xc2 => k_is)
    (case xk2 => k_is)
    (case xd2 => k_is)
    (case xb2 => kernel_rfl)
    (case xv2 => exact ⟨_, rfl⟩)
    (case mL => k_is)
    (case mN => k_is)
    (case mS => k_is)
    (case z_tuple => k_is)
    (case z_len => k_is)
    (case z_isinstance => k_is)
    (case z_range => k_is)
    (case z_list => k_is)
    (case z_int => k_is)
    (case z_max => k_is)
    (case z_min => k_is)
    (case z_str => k_is)
    (case z_all => k_is)
    (case z_abs => k_is)
    (case z_repr => k_is)
    (case rt => kernel_rfl)
