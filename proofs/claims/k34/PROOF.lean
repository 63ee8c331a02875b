import PyProof.Rows.All
import Wide.All
import OpenK.AllK
import Wide.FinOn
import HandS.ForMost
import HandS.ForExc
import HandS.ExcInit
import HandS.ExcSuper
import HandS.ExcField
import HandS.ExcIs
import KE.KSuper
import KE.KExcInit
import KE.KIsAll
import KE.KTryMore
import HandS.List
import HandS.Style
import HandS.Deep
import KE.SortData
import HandS.Flow
import HandS.Wide
import HandS.TupAny
import HandS.IsInst
import HandS.Steps
import HandS.RaiseMore
import HandS.Zip
import HandS.ExcOwn
import HandS.Defaults
import HandS.TryOnly
import HandS.Conv
import HandS.IterVal
import HandS.Small
import KE.KStateDown
import HandS.Ends
import HandS.Words
import HandS.WordsExc
import HandS.Head0
import HandS.Head1
import HandS.Head2
import HandS.HeadEnd
import HandS.HeadHook1
import HandS.HeadHook2
import HandS.HeadHook3
import HandS.HeadHook4
import PySem.Challenge.RW_crowdways_k34_whole_products_of_a_size
section
set_option Elab.async false
set_option linter.all false
set_option maxRecDepth 100000
set_option maxHeartbeats 2000000
/-! X1: the first field of an own exception whose classes stand over Exception. -/
namespace Cx1
open PySem PySem.W PySem.Calls PyProof.Rows PySem.HandSPX PySem.ESX
/-- classes of the program, then Exception and what stands above it -/
abbrev refsE (l : List Value) : Bool := excTail exTail l
section
open Builtin Builtin.ObjectAttr
variable {prog : Program} {w : World} {A : Around} {E : Value → Shared → Prop} {R : Result → Shared → Prop} {hp : Heap} {g : Array GenState} {d : Drawn} {t : Nat} {os : OsState}
/-- x.name = v, where x has no dict as yet -/
theorem first_field {K : W.Frag} {name : Str} {tk : Tok} {v : Value} {x C : Addr} {fv : Array Value} (X : K.In hp) (hx : hp.get? x = some { cls := .ref C, data := .fields fv }) (ho : excOver K C exTail = true) (hh : hasDictIn K C = true) (ht : takerIn K C name = some none)
    (q : ∀ h1 k1 dx, (∀ b o, b ≠ x → hp.get? b = some o → h1.get? b = some o) → hp.objs.size ≤ dx → dx ≠ x → h1.get? x = some { cls := .ref C, dict := some dx, data := .fields fv } → h1.Ns1 dx (fun y => if y = name then some v else none) → R (.ok (.ret .none)) ⟨h1, g, d, k1, os⟩) :
    codeAny (model prog w) A (.call (.builtin "object.__setattr__") ⟨[.ref x, .str name tk, v], []⟩) R ⟨hp, g, d, t, os⟩ := by
  have away : hp.objs.size ≠ x := fun z => Nat.lt_irrefl _ (by have := Heap.lt_size hx; rwa [z] at this)
  obtain ⟨cd, hcd, hdd⟩ := any_some hh
  have class_ : W.Looks (model prog w) hp (classData C) cd := W.looks_clsIn X hcd
  have stays : (hp.push { cls := .type "dict", data := .dict #[] }).get? x = some { cls := .ref C, data := .fields fv } := Heap.get?_push_of_some _ hx
  refine osa_openX (r := none) (od := none) F.store_Exception X ⟨hx, rfl, rfl, trivial⟩ ho ht fun b => ?_
  obtain ⟨_, _, _, _, _, hasD, _, _, _, _, _⟩ := cd
  obtain rfl : hasD = true := hdd
  show wpAny _ _ (storeInOwnDict _ _ _ _ _ _) _ _ _
  unfold storeInOwnDict
  unfold ownDictForStores
  repeat (first | (with_reducible refine wpAny_loadPart_at hx ?_) | (with_reducible refine class_.at ?_) | (with_reducible refine HandSPX.store_in_new ?_ ?_) | wp_step)
  · refine ⟨{ cls := .type "dict", data := .dict #[] }, #[], _, ?_, rfl, (fun _ z => absurd z (by simp)), fun _ => rfl⟩
    rw [Heap.get?_update_ne _ _ _ _ away]
    exact Heap.get?_push_at rfl rfl
  · intro h1 k1 ns same
    have other : ∀ b o, b ≠ x → hp.get? b = some o → h1.get? b = some o := fun b o nb z => by
      rw [same.2 b (fun e => by have := Heap.lt_size z; rw [e] at this; exact Nat.lt_irrefl _ this), Heap.get?_update_ne _ _ _ _ nb]
      exact Heap.get?_push_of_some _ z
    have self_ : h1.get? x = some { cls := .ref C, dict := some hp.objs.size, data := .fields fv } := by
      rw [same.2 x (Ne.symm away)]
      exact Heap.get?_update_self _ stays rfl
    exact q h1 k1 _ other (Nat.le_refl _) away self_ ns
end
end Cx1
end

section
set_option Elab.async false
set_option linter.all false
set_option maxRecDepth 100000
set_option maxHeartbeats 2000000
/-! X2: super().__init__(..) within __init__. -/
namespace Cx1
open PySem PySem.W PySem.Calls PyProof.Rows PySem.HandSPX PySem.ESX
section
variable {prog : Program} {w : World} {A : Around} {E : Value → Shared → Prop} {hp : Heap} {g : Array GenState} {d : Drawn} {t : Nat} {os : OsState}
/-- what is asked of the class and of its __init__ -/
structure SupOk (prog : Program) (K : Frag) (C fI : Addr) (fd : FuncData) (cc cda D : Addr) (slf : Str) (cd : ClassData) : Prop where
  cls : ∃ nm q N bs bm sn sub ab col dd k0 k1 k2 k3 k5, K.lookup C = some (excClassObj nm q C N bs bm true sn sub ab col dd k0 k1 k2 k3 k5 "Exception.__new__") ∧ refsE bm = true
  hcd : clsIn K C = some cd
  over : excOver K C exTail = true
  hd : hasDictIn K C = true
  sup : alongIn K "__init__" ((cd.mro.dropWhile (· != .ref C)).drop 1) = some (some (.builtin "Exception.__init__"))
  opq : nsIn K cStatics "thirdparty.any" = some none
  fn : ∃ oc od osl, K.lookup fI = some ⟨oc, od, .func fd, osl⟩
  clo : fd.closure = [(("__class__" : Str), cc)]
  glob : fd.globals = mainGlobals
  bl : fd.builtins = builtinsNs
  kind : fd.scope.kind = .function
  hks : fd.scope.names.lookup ("super" : Str) = some .globalImplicit
  hkc : fd.scope.names.lookup ("__class__" : Str) = some .free
  hka : fd.scope.names.lookup slf = some .local
  par : ∃ ar, (fd.params.posonlyargs ++ fd.params.args).head? = some ar ∧ ar.arg = slf
  code : fd.code = .ref cda
  codeO : ∃ ccl cdd vs ccs file tf, K.lookup cda = some ⟨ccl, cdd, .fields vs, ccs⟩ ∧ vs[2]? = some (.str file tf) ∧ ((prog.main.file : Str) == file) = true
  cell : ∃ cl cld csl, K.lookup cc = some ⟨cl, cld, .cell (some (.ref C)), csl⟩
  top : (prog.main.scope.names.lookup ("super" : Str)).isSome = false
  selfSub : mroIn K C (.ref C) = some true
  excSub : mroIn K C (.type "Exception") = some true
theorem super_exec {K : Frag} {C fI cc cda D L e t0 : Addr} {fd : FuncData} {slf : Str} {cd : ClassData} {mg mb m : Str → Option Value} {body : List Stmt} {es : List Expr} {us : List Value} {p0 p1 p2 p4 p5 : Pos} {pl : Sem Bool} {Q : Flow → Shared → Prop}
    (T : SupOk prog K C fI fd cc cda D slf cd) (X : K.In hp) (Gn : hp.Ns mainGlobals mg) (hms : mg "super" = none) (Bn : hp.Ns builtinsNs mb) (hmb : mb "super" = some (.type "super"))
    (hL : hp.Ns L m) (hv : m slf = some (.ref e)) (he : hp.get? e = some (excO C t0)) (hus : us.length ≤ sizeLine) (heL : e ≠ L)
    (hargs : ∀ (f : Value) (s' : Shared) (Q : Args → Shared → Prop), s'.heap.Ns L m → Q ⟨us, []⟩ s' → wpAny (model prog w) A (evalArgs f true (backTo p4 (starEach es (callEnv fd L fI))) []) Q E s')
    (hpl : (backTo p4 (starEach es (callEnv fd L fI))).any (·.1) = false)
    (hi : interactive (callEnv fd L fI) = false) (hs : swapsWith (.Call (.Attribute (.Call (.Name "super" p0) [] [] p1) "__init__" p2) es [] p4) none p5.line (callEnv fd L fI) = pure false)
    (he' : eval (.Call (.Attribute (.Call (.Name "super" p0) [] [] p1) "__init__" p2) es [] p4) (callEnv fd L fI) = (do
      let ov ← attributeBase (.Call (.Name "super" p0) [] [] p1) "__init__" (callEnv fd L fI) (eval (.Call (.Name "super" p0) [] [] p1) (callEnv fd L fI))
      standAt p2.atName
      let (f, first) ← holding [ov] (getMethod ov "__init__" pl)
      callWith p4 f first (backTo p4 (starEach es (callEnv fd L fI))) []))
    (hq : ∀ h' t1 t', (∀ b o, b ≠ e → hp.get? b = some o → h'.get? b = some o) → h'.get? e = some (excO C t1) → Q .next ⟨h', g, d, t', os⟩) :
    _root_.PySem.wpAt (model prog w) A (.func body (callEnv fd L fI)) (exec (.Expr (.Call (.Attribute (.Call (.Name "super" p0) [] [] p1) "__init__" p2) es [] p4) p5) (callEnv fd L fI)) Q E ⟨hp, g, d, t, os⟩ := by
  obtain ⟨nm, q, N, bs, bm, sn, sub, ab, col, dd, k0, k1, k2, k3, k5, hC, _⟩ := T.cls
  obtain ⟨oc, od, osl, hf⟩ := T.fn
  obtain ⟨ar, hp1, rfl⟩ := T.par
  obtain ⟨ccl, cdd, vs, ccs, file, tf, hcode, hvs, hfile⟩ := T.codeO
  obtain ⟨cl, cld, csl, hcell⟩ := T.cell
  have hxC : e ≠ C := fun z => by
    have := X _ _ hC
    rw [← z, he] at this
    cases this
  obtain ⟨fname, qual, params, fbody, scope, gl, clo, dV, kV, doc, pm, an, cdv, ct, bl⟩ := fd
  have z1 : clo = [(("__class__" : Str), cc)] := T.clo
  have z2 : gl = mainGlobals := T.glob
  have z3 : bl = builtinsNs := T.bl
  have z4 : cdv = .ref cda := T.code
  subst z1 z2 z3 z4
  have hk : scope.kind = .function := T.kind
  have hks : scope.names.lookup ("super" : Str) = some .globalImplicit := T.hks
  have hkc : scope.names.lookup ("__class__" : Str) = some .free := T.hkc
  have hka : scope.names.lookup ar.arg = some .local := T.hka
  obtain ⟨oD, hD1, hD2⟩ : ∃ oD, hp.get? C = some oD ∧ oD.data = .cls cd := by
    have hcd := T.hcd
    unfold clsIn at hcd
    split at hcd
    · rename_i c d cd' sl ho
      cases hcd
      exact ⟨_, X _ _ ho, rfl⟩
    · cases hcd
  refine ks_wpAt_Expr_any ?_ hi hs
  refine ks_wpAt_MethodCall (pl := pl) ?_ he'
  refine ks_wpAt_super_base (env := ksEnv qual scope L fI (.ref cda) cc) (by rw [← T.hks]; rfl) (by rw [← T.hkc]; rfl) (by decide) rfl (X _ _ hf) rfl hp1 rfl (X _ _ hcode) rfl hvs hfile T.top ?_
  refine ks_loadName_global hk hks (loadGlobal_builtin (env := ksEnv qual scope L fI (.ref cda) cc) Gn hms Bn hmb ⟨rfl, ?_⟩)
  refine wpAny_loadName_free hk hkc rfl ⟨_, X _ _ hcell, rfl⟩ ?_
  refine wpAny_loadName_local hk hka hL hv ?_
  refine ks_wpAny_isType_cls hD1 hD2 ⟨rfl, ?_⟩
  refine ks_wpAny_call_super hD1 hD2 he rfl (fun c z => by cases z) (looks_mroIn X T.selfSub) (fun h1 e1 k1 => ?_)
  have X1 : K.In h1 := X.keeps k1
  have he1 := k1 _ _ he
  have hin : W.Looks (model prog w) h1 (isInstance (.ref e) (.type "Exception")) true := by
    have I : W.InstAt h1 e (excO C t0) C none := ⟨he1, rfl, rfl, trivial⟩
    exact I.type.andThen (W.looks_mroIn X1 T.excSub)
  refine getMethod_super (name := ("__init__" : Str)) e1 (looks_opaque X1 T.opq) (l₀ := cd.mro) (fun A Q E s k q => wpAny_bind ((looks_clsIn X1 T.hcd) A _ E s k (wpAny_pure q))) rfl X1 T.sup hxC (by decide) hin ?_
  dsimp only
  have k2 : ∀ b o, h1.get? b = some o → (h1.push (bw e)).get? b = some o := fun b o z => Heap.get?_push_of_some _ z
  have hbw : (h1.push (bw e)).get? h1.objs.size = some (bw e) := Heap.get?_push_at rfl rfl
  have hL2 : (h1.push (bw e)).Ns L m := (hL.keeps k1).keeps k2
  refine callWith_bw (x := e) hpl ?_
  refine hargs _ _ _ hL2 ⟨hbw, ?_⟩
  refine call_bw (k2 _ _ (k1 _ _ (X _ _ hC))) (k2 _ _ he1) hbw hus (fun h' t1 k3 he3 => ?_)
  exact hq h' t1 _ (fun b o hb ho => k3 b o hb (k2 _ _ (k1 _ _ ho))) he3
end
end Cx1
end

section
set_option Elab.async false
set_option linter.all false
set_option maxRecDepth 100000
set_option maxHeartbeats 2000000
/-! X3: the whole __init__ of an own exception with no field, one, two. -/
namespace Cx1
open PySem PySem.W PySem.Calls PyProof.Rows PySem.HandSPX PySem.ESX
section
variable {prog : Program} {w : World} {A : Around} {E : Value → Shared → Prop} {hp : Heap} {g : Array GenState} {d : Drawn} {t : Nat} {os : OsState}
theorem call_eval {o : Expr} {name : Str} {es : List Expr} {apos pos : Pos} {env : Env} (hl : (apos.endLine == pos.line) = true) (hf : methodCallForm (es.length + ([] : List Keyword).length) (backTo pos (starEach es env)) (backToKw pos (keywordEach [] env)) = true) :
    eval (.Call (.Attribute o name apos) es [] pos) env = (do
      let ov ← attributeBase o name env (eval o env)
      standAt apos.atName
      let (f, first) ← holding [ov] (getMethod ov name (do return (← importBound o env).getD true))
      callWith pos f first (backTo pos (starEach es env)) []) := by
  have hpos : methodCallPos true o env apos pos = pure pos := by unfold methodCallPos; simp [hl]
  rw [arm_eval_Call]
  unfold methodCall
  rw [hf]
  simp only [hpos, pure_bind, calleeOf, if_true]
  rfl
/-- self.f = p, the first field -/
theorem store1 {K : Frag} {C fI cc cda D L e t1 : Addr} {fd : FuncData} {slf p f : Str} {u : Value} {cd : ClassData} {m : Str → Option Value} {body : List Stmt} {p6 p7 p8 p9 : Pos} {Q : Flow → Shared → Prop}
    (T : SupOk prog K C fI fd cc cda D slf cd) (X : K.In hp) (sa : findIn K (.ref C) "__setattr__" = some (some (.builtin "object.__setattr__"))) (hf : takerIn K C f = some none)
    (hkp : fd.scope.names.lookup p = some .local) (hL : hp.Ns L m) (hv : m slf = some (.ref e)) (hu : m p = some u) (he : hp.get? e = some (excO C t1)) (d1 : (slf == ("__debug__" : Str)) = false) (d2 : (p == ("__debug__" : Str)) = false)
    (hq : ∀ h' dx tk, (∀ b o, b ≠ e → hp.get? b = some o → h'.get? b = some o) → hp.objs.size ≤ dx → dx ≠ e → h'.get? e = some { cls := .ref C, dict := some dx, data := .fields #[.ref t1, .none, .none, .none, .bool false, .none] } → h'.Ns1 dx (fun y => if y = f then some u else none) → Q .next ⟨h', g, d, tk, os⟩) :
    _root_.PySem.wpAt (model prog w) A (.func body (callEnv fd L fI)) (exec (.Assign [.Attribute (.Name slf p6) f p7] (.Name p p8) p9) (callEnv fd L fI)) Q E ⟨hp, g, d, t, os⟩ := by
  refine ks_wpAt_Assign_Attr (wpAt_of_wpAny (ldL hL hu (ldL hL hv ?_ T.kind (by rw [← T.hka]; rfl) d1) T.kind (by rw [← hkp]; rfl) d2)) (by rfl)
  refine W.set_plain X (ox := excO C t1) (od := none) ⟨he, rfl, rfl, trivial⟩ sa ?_
  refine first_field X he T.over T.hd hf fun h' tk' dx k hd hdx hx hn => ?_
  exact hq h' dx tk' k hd hdx hx hn
/-- __init__(self, p): super().__init__(p); self.f = p -/
theorem init1 {K : Frag} {C fI cc cda D e t0 : Addr} {fd : FuncData} {slf p f : Str} {u : Value} {cd : ClassData} {mg mb : Str → Option Value} {p0 p1 p2 p3 p4 p5 p6 p7 p8 p9 : Pos} {R : Result → Shared → Prop}
    (T : SupOk prog K C fI fd cc cda D slf cd) (X : K.In hp) (sa : findIn K (.ref C) "__setattr__" = some (some (.builtin "object.__setattr__"))) (hf : takerIn K C f = some none)
    (Gn : hp.Ns mainGlobals mg) (hms : mg "super" = none) (Bn : hp.Ns builtinsNs mb) (hmb : mb "super" = some (.type "super")) (hlim : hp.NoLimit) (hroom : A.depth < recursionLimit)
    (hcd : codeIn K fd.code fd.qualname = true) (hbody : fd.body = .stmts [.Expr (.Call (.Attribute (.Call (.Name "super" p0) [] [] p1) "__init__" p2) [.Name p p3] [] p4) p5, .Assign [.Attribute (.Name slf p6) f p7] (.Name p p8) p9])
    (hco : fd.scope.isCoroutine = false) (hgen : fd.scope.isGenerator = false)
    (hline : (p2.endLine == p4.line) = true) (hbind : BindsTo ⟨hp, g, d, t, os⟩ fd ⟨[.ref e, u], []⟩ [(slf, .ref e), (p, u)]) (hcell : ∀ x ∈ fd.scope.names, x.2 ≠ .cell) (hkp : fd.scope.names.lookup p = some .local) (hne : p ≠ slf)
    (d1 : (slf == ("__debug__" : Str)) = false) (d2 : (p == ("__debug__" : Str)) = false) (he : hp.get? e = some (excO C t0)) (hKe : K.lookup e = none)
    (hq : ∀ h' dx t1 tk, (∀ b o, b ≠ e → hp.get? b = some o → h'.get? b = some o) → hp.objs.size ≤ dx → dx ≠ e → h'.get? e = some { cls := .ref C, dict := some dx, data := .fields #[.ref t1, .none, .none, .none, .bool false, .none] } → h'.Ns1 dx (fun y => if y = f then some u else none) → R (.ok (.ret .none)) ⟨h', g, d, tk, os⟩) :
    codeAny (model prog w) A (.call (.ref fI) ⟨[.ref e, u], []⟩) R ⟨hp, g, d, t, os⟩ := by
  obtain ⟨oc, od, osl, hfI⟩ := T.fn
  refine ks_codeAny_call_defAt (fd := fd) (binds := [(slf, .ref e), (p, u)]) hroom (X _ _ hfI) rfl hlim (codeRec_of X hcd) hbody hbind hcell (fun x hx => ?_) (fun h₀ hns k0 => ?_) hco hgen T.kind
  · rcases List.mem_cons.mp hx with rfl | hx
    · exact T.hka
    · rcases List.mem_cons.mp hx with rfl | hx
      · exact hkp
      · cases hx
  · have hs : ([(slf, Value.ref e), (p, u)].reverse.lookup slf) = some (.ref e) := by
      show List.lookup slf [(p, u), (slf, Value.ref e)] = _
      rw [List.lookup_cons, show (slf == p) = false from beq_eq_false_iff_ne.mpr (Ne.symm hne), List.lookup_cons, beq_self_eq_true]
    have hp' : ([(slf, Value.ref e), (p, u)].reverse.lookup p) = some u := by
      show List.lookup p [(p, u), (slf, Value.ref e)] = _
      rw [List.lookup_cons, beq_self_eq_true]
    have heL : e ≠ hp.objs.size := Nat.ne_of_lt (Heap.lt_size he)
    refine ks_wpAt_execs_cons (super_exec (A := A.deeper (callEnv fd hp.objs.size fI)) T (X.keeps k0) (Gn.keeps k0) hms (Bn.keeps k0) hmb hns hs (k0 _ _ he) (us := [u]) (by rw [sizeLine_eq]; simp) heL (fun f s' Q hn q => ?_) (by rfl) ?_ (by rfl) (call_eval hline (by rfl)) (fun h1 t1 t' k1 he1 => ?_))
    · exact evalArgs_plain (spliced_cons (ldL hn hp' (spliced_nil q) T.kind (by rw [← hkp]; rfl) d2))
    · show (fd.scope.kind == .module && _) = false
      rw [T.kind]; rfl
    · have k01 : ∀ b o, b ≠ e → hp.get? b = some o → h1.get? b = some o := fun b o hb ho => k1 b o hb (k0 _ _ ho)
      have X1 : K.In h1 := fun b o ho => k01 b o (fun z => by rw [z, hKe] at ho; cases ho) (X _ _ ho)
      have hns1 : h1.Ns hp.objs.size (fun x => List.lookup x [(slf, Value.ref e), (p, u)].reverse) := hns.at fun o ho => k1 _ o (Ne.symm heL) ho
      refine ks_wpAt_execs_cons (store1 T X1 sa hf hkp hns1 hs hp' he1 d1 d2 fun h2 dx tk k2 hd hdx he2 hn2 => ?_)
      refine wpAt_of_wpAny (wpAny_pure ?_)
      have hsz : hp.objs.size ≤ dx := by
        obtain ⟨oL, _, _, hoL, _⟩ := hns1
        have := Heap.lt_size hoL
        exact Nat.le_trans (Nat.le_of_lt this) hd
      exact hq h2 dx t1 tk (fun b o hb ho => k2 b o hb (k01 b o hb ho)) hsz hdx he2 hn2
/-- __init__(self): super().__init__() -/
theorem init0 {K : Frag} {C fI cc cda D e t0 : Addr} {fd : FuncData} {slf : Str} {cd : ClassData} {mg mb : Str → Option Value} {p0 p1 p2 p4 p5 : Pos} {R : Result → Shared → Prop}
    (T : SupOk prog K C fI fd cc cda D slf cd) (X : K.In hp)
    (Gn : hp.Ns mainGlobals mg) (hms : mg "super" = none) (Bn : hp.Ns builtinsNs mb) (hmb : mb "super" = some (.type "super")) (hlim : hp.NoLimit) (hroom : A.depth < recursionLimit)
    (hcd : codeIn K fd.code fd.qualname = true) (hbody : fd.body = .stmts [.Expr (.Call (.Attribute (.Call (.Name "super" p0) [] [] p1) "__init__" p2) [] [] p4) p5])
    (hco : fd.scope.isCoroutine = false) (hgen : fd.scope.isGenerator = false)
    (hline : (p2.endLine == p4.line) = true) (hbind : BindsTo ⟨hp, g, d, t, os⟩ fd ⟨[.ref e], []⟩ [(slf, .ref e)]) (hcell : ∀ x ∈ fd.scope.names, x.2 ≠ .cell)
    (he : hp.get? e = some (excO C t0))
    (hq : ∀ h' t1 tk, (∀ b o, b ≠ e → hp.get? b = some o → h'.get? b = some o) → h'.get? e = some (excO C t1) → R (.ok (.ret .none)) ⟨h', g, d, tk, os⟩) :
    codeAny (model prog w) A (.call (.ref fI) ⟨[.ref e], []⟩) R ⟨hp, g, d, t, os⟩ := by
  obtain ⟨oc, od, osl, hfI⟩ := T.fn
  refine ks_codeAny_call_defAt (fd := fd) (binds := [(slf, .ref e)]) hroom (X _ _ hfI) rfl hlim (codeRec_of X hcd) hbody hbind hcell (fun x hx => ?_) (fun h₀ hns k0 => ?_) hco hgen T.kind
  · rcases List.mem_cons.mp hx with rfl | hx
    · exact T.hka
    · cases hx
  · have hs : ([(slf, Value.ref e)].reverse.lookup slf) = some (.ref e) := by
      show List.lookup slf [(slf, Value.ref e)] = _
      rw [List.lookup_cons, beq_self_eq_true]
    have heL : e ≠ hp.objs.size := Nat.ne_of_lt (Heap.lt_size he)
    refine ks_wpAt_execs_cons (super_exec (A := A.deeper (callEnv fd hp.objs.size fI)) T (X.keeps k0) (Gn.keeps k0) hms (Bn.keeps k0) hmb hns hs (k0 _ _ he) (us := []) (by rw [sizeLine_eq]; simp) heL (fun f s' Q hn q => ?_) (by rfl) ?_ (by rfl) (call_eval hline (by rfl)) (fun h1 t1 t' k1 he1 => ?_))
    · show wpAny _ _ (evalArgs f true [] []) _ _ _
      exact evalArgs_kw_nil (by rfl) (show wpAny _ _ (evalAll []) _ _ _ from wpAny_pure q)
    · show (fd.scope.kind == .module && _) = false
      rw [T.kind]; rfl
    · refine wpAt_of_wpAny (wpAny_pure ?_)
      exact hq h1 t1 _ (fun b o hb ho => k1 b o hb (k0 _ _ ho)) he1
end
end Cx1
end

section
set_option Elab.async false
set_option linter.all false
set_option maxRecDepth 100000
set_option maxHeartbeats 2000000
/-! X4: such an exception made, as a rule of the hand layer. -/
namespace Cx1
open PySem PySem.Spec PyProof.Rows L2
/-- a class of exceptions whose __init__ hands its one parameter on to super's and keeps it as f -/
structure Exc1 (prog : Program) (K : PySem.W.Frag) (C : Addr) (f : Str) : Prop where
  ex : ∃ (fI : Addr) (fd : FuncData) (cc cda D : Addr) (slf p : Str) (cd : ClassData) (p0 p1 p2 p3 p4 p5 p6 p7 p8 p9 : Pos), SupOk prog K C fI fd cc cda D slf cd ∧
    fd.body = .stmts [.Expr (.Call (.Attribute (.Call (.Name "super" p0) [] [] p1) "__init__" p2) [.Name p p3] [] p4) p5, .Assign [.Attribute (.Name slf p6) f p7] (.Name p p8) p9] ∧
    PySem.W.codeIn K fd.code fd.qualname = true ∧ fd.scope.isCoroutine = false ∧ fd.scope.isGenerator = false ∧ (p2.endLine == p4.line) = true ∧
    (∀ (s : Shared) (a b : Value), BindsTo s fd ⟨[a, b], []⟩ [(slf, a), (p, b)]) ∧ (∀ x ∈ fd.scope.names, x.2 ≠ .cell) ∧ fd.scope.names.lookup p = some .local ∧ p ≠ slf ∧ (slf == ("__debug__" : Str)) = false ∧ (p == ("__debug__" : Str)) = false ∧
    PySem.W.findIn K (.ref C) "__init__" = some (some (.ref fI)) ∧ PySem.W.typeIn K (.ref fI) = some (.type "function")
  setr : PySem.W.findIn K (.ref C) "__setattr__" = some (some (.builtin "object.__setattr__"))
  bare : PySem.W.findIn K (.ref C) f = some none
  noTaker : PySem.W.takerIn K C f = some none
  isEx : PySem.W.subIn K (.ref C) (.type "BaseException") = some true
  isTy : PySem.W.typeIn K (.ref C) = some (.type "type")
  isKp : PySem.W.keepIn K (.ref C) = true
/-- a class of exceptions whose __init__ has no parameter -/
structure Exc0 (prog : Program) (K : PySem.W.Frag) (C : Addr) : Prop where
  ex : ∃ (fI : Addr) (fd : FuncData) (cc cda D : Addr) (slf : Str) (cd : ClassData) (p0 p1 p2 p4 p5 : Pos), SupOk prog K C fI fd cc cda D slf cd ∧
    fd.body = .stmts [.Expr (.Call (.Attribute (.Call (.Name "super" p0) [] [] p1) "__init__" p2) [] [] p4) p5] ∧
    PySem.W.codeIn K fd.code fd.qualname = true ∧ fd.scope.isCoroutine = false ∧ fd.scope.isGenerator = false ∧ (p2.endLine == p4.line) = true ∧
    (∀ (s : Shared) (a : Value), BindsTo s fd ⟨[a], []⟩ [(slf, a)]) ∧ (∀ x ∈ fd.scope.names, x.2 ≠ .cell) ∧
    PySem.W.findIn K (.ref C) "__init__" = some (some (.ref fI)) ∧ PySem.W.typeIn K (.ref fI) = some (.type "function")
  baseC : PySem.W.subIn K (.ref C) (.type "BaseException") = some true
  kindC : PySem.W.typeIn K (.ref C) = some (.type "type")
  keepC : PySem.W.keepIn K (.ref C) = true
def tMk1 (C : Addr) (f : Str) (ta : TA) : L2.St → Hp → XK → Prop := fun σ H Q => ta σ H fun vs H1 => ∃ v, vs = [v] ∧ ∀ d, H1 d = none → Q (.ref C) (some d) (upd H1 d (.xd [(f, v)]))
section
variable {X : Cx} {e : Expr} {ta : TA} {f : Str} {p pos : Pos}
/-- the end of the making: what is known of the exception -/
theorem mk_made {pins : List (Addr × Obj)} {σ : L2.St} {H1 : Hp} {Q : XK} {hp hp2 h' : Heap} {g : Array GenState} {dr : Drawn} {t1 t2 : Nat} {os : OsState} {a C dx t3 : Addr} {v : V} {u : Value}
    (I1 : L2.Inv X pins σ H1 ⟨hp, g, dr, t1, os⟩) (I2 : L2.Inv X pins σ (upd H1 a (exo a C none)) ⟨hp2, g, dr, t1, os⟩) (ha : hp.objs.size ≤ a) (kept : ∀ b o, hp.get? b = some o → hp2.get? b = some o)
    (hd1 : hp.objs.size ≤ dx) (hda : dx ≠ a) (hdx : hp2.objs.size ≤ dx) (k : ∀ b o, b ≠ a → hp2.get? b = some o → h'.get? b = some o)
    (he : h'.get? a = some { cls := .ref C, dict := some dx, data := .fields #[.ref t3, .none, .none, .none, .bool false, .none] }) (newA : h'.Ns1 dx (fun y => if y = f then some u else none)) (ru : RelV v u)
    (T : Raises X (.ref C)) (q : Q (.ref C) (some dx) (upd H1 dx (.xd [(f, v)]))) : MkP X pins σ Q (.ref a) ⟨h', g, dr, t2, os⟩ := by
  have hna : H1 a = none := I1.hok.fresh ha
  have hnd : H1 dx = none := I1.hok.fresh hd1
  have e2 : (upd H1 a (exo a C none)) a = some (exo a C none) := upd_same
  have nd2 : (upd H1 a (exo a C none)) dx = none := by rw [upd_ne hda]; exact hnd
  have na : ∀ {b : Addr}, (upd H1 a (exo a C none)) b = none → b ≠ a := fun {b} n z => by rw [z, e2] at n; cases n
  have nd : ∀ {b : Addr} {o : Obj}, hp2.get? b = some o → b ≠ dx := fun {b o} q => Nat.ne_of_lt (Nat.lt_of_lt_of_le (Heap.lt_size q) hdx)
  have un : Un (frs X.stack) [] (upd H1 a (exo a C none)) (upd (upd (upd H1 a (exo a C none)) dx (exd dx [(f, v)])) a (exo a C (some dx))) hp2 h' := {
    keep := fun b o z n _ _ => k b o (na n) z
    slot := fun b o z n _ _ => ⟨o.slots, k b o (na n) z⟩
    free := fun b o z n _ => by rw [upd_ne (na n), upd_ne (nd z)]; exact n
    there := fun b o q _ => by
      by_cases hb : b = a
      · exact ⟨_, by rw [hb]; exact he⟩
      · exact ⟨o, k b o hb q⟩
    tups := fun b xs q => by rw [upd_ne (at_ne e2 q exo_tup), upd_ne (ne_of_none q nd2)]; exact q
    frzs := fun b o v q => by rw [upd_ne (at_ne e2 q exo_frz), upd_ne (ne_of_none q nd2)]; exact q
    tbls := fun b ps q => ⟨#[], by rw [upd_ne (at_ne e2 q exo_tbl), upd_ne (ne_of_none q nd2), q]; simp⟩ }
  have ok2 : HOk X.prog X.w (upd (upd (upd H1 a (exo a C none)) dx (exd dx [(f, v)])) a (exo a C (some dx))) h' := fun b o q => by
    by_cases hb : b = a
    · subst hb
      rw [upd_same] at q
      cases q
      exact exo_ok he
    · rw [upd_ne hb] at q
      by_cases hd : b = dx
      · subst hd
        rw [upd_same] at q
        cases q
        exact exd_ok newA (relO_put (fs := []) ru fun g => True.intro)
      · rw [upd_ne hd] at q
        exact (I2.hok b o q).stay (fun c v hc z => k c v (by
            rcases hc with hc | hc
            · rw [hc]
              exact hb
            · exact at_ne e2 hc exo_own) z)
          (fun c hc => by rw [upd_ne (at_ne e2 hc exo_own), upd_ne (ne_of_none hc nd2)]; exact hc) (fun c xs hc => by rw [upd_ne (at_ne e2 hc exo_tup), upd_ne (ne_of_none hc nd2)]; exact hc)
  have eH : upd (del (upd (upd (upd H1 a (exo a C none)) dx (exd dx [(f, v)])) a (exo a C (some dx))) a) dx (.xd [(f, v)]) = upd H1 dx (.xd [(f, v)]) := by
    funext b
    by_cases hb : b = dx
    · subst hb; rw [upd_same, upd_same]
    · rw [upd_ne hb, upd_ne hb]
      by_cases hba : b = a
      · subst hba; rw [del_same, hna]
      · rw [del_ne hba, upd_ne hba, upd_ne hb, upd_ne hba]
  refine mk_end T I1 ha kept un ok2 rfl I2.bare (by rw [upd_same]) (by rw [upd_ne hda, upd_same]) hnd ?_
  rw [eH]
  exact q
theorem pmk1 {x : Str} {C : Addr} (T : Exc1 X.prog X.K C f) (hms : X.mg "super" = none) (hr : Room 1 X.A) (hg : Gl X x) (hm : X.mg x = some (.ref C)) (ha : PA X [e] ta)
    (hdb : (x == ("__debug__" : Str)) = false := by decide) (he : starEach [e] X.env = [(false, eval e X.env)] := by rfl) :
    PMk X (.Call (.Name x p) [e] [] pos) (tMk1 C f ta) := by
  intro pins s σ H Q I h
  obtain ⟨fI, fd, cc, cda, D, slf, pn, cd, p0, p1, p2, p3, p4, p5, p6, p7, p8, p9, S, hbody, hcd, hco, hgen, hline, hbind, hcell, hkp, hne, d1, d2, iC, tI⟩ := T.ex
  obtain ⟨nm, q, N, bs, bm, sn, sub, ab, col, dd, k0, k1, k2, k3, k5, hC, hbm⟩ := S.cls
  refine wpAny_Call_Name_kw <| ld_glob I hg hm ?_ hdb
  refine PySem.W.callWith_K (h₀ := X.base) I.ok.mod.kin T.isKp (thn (ha.run pos pins s σ H _ I h) fun ws s1 ⟨vs, H1, I1, r1, v, hv, q1⟩ => ⟨I1.kIn, ?_⟩) he (by rfl)
  subst hv
  show wpAny _ _ (call (Value.ref C) ws) _ _ _
  obtain ⟨hp, g, dr, tk, osn⟩ := s1
  have le1 : hp.objs.size ≤ hp.objs.size + 1 := Nat.le_succ _
  have newA : H1 (hp.objs.size + 1) = none := I1.hok.fresh le1
  have kept : ∀ b o, hp.get? b = some o → ((hp.push (PySem.W.kdv_tup ws)).push (PySem.HandSPX.excO C hp.objs.size)).get? b = some o := fun b o e => Heap.get?_push_of_some _ (Heap.get?_push_of_some _ e)
  have made1 : ((hp.push (PySem.W.kdv_tup ws)).push (PySem.HandSPX.excO C hp.objs.size)).get? (hp.objs.size + 1) = some (PySem.HandSPX.excO C hp.objs.size) := by heap_get
  obtain ⟨u, rfl, ru⟩ : ∃ u, ws = [u] ∧ RelV v u := by
    cases r1 with
    | cons ra rw => cases rw; exact ⟨_, rfl, ra⟩
  obtain ⟨mb, hB, hBb⟩ := I1.ok.mod.blt
  have bk : ∀ b o, X.base.get? b = some o → hp.get? b = some o := I1.bk
  have hKe : X.K.lookup (hp.objs.size + 1) = none := by
    cases z : X.K.lookup (hp.objs.size + 1) with
    | none => rfl
    | some o => exact absurd (Heap.lt_size (I1.kIn _ _ z)) (by show ¬ hp.objs.size + 1 < hp.objs.size; omega)
  have hmb : mb "super" = some (.type "super") := (hBb _ (by decide)).trans PyProof.Rows.Boot.«super»
  refine wpAny_call (PySem.HandSPX.call_own F.excBase_Exception (fun Y => PySem.W.excTail_contains Y bm hbm) (I1.kIn _ _ hC) (PySem.W.looks_findIn I1.kIn iC) (fun self => PySem.W.bind_fn I1.kIn self tI) (by rw [sizeLine_eq]; simp)
    (init1 (A := X.A.under (.builtin "type.__call__" ⟨[.ref C, u], []⟩)) S (I1.kIn.keeps kept) T.setr T.noTaker ((I1.ok.mod.glob.keeps bk).keeps kept) hms ((hB.keeps bk).keeps kept) hmb (I1.nolimit.keeps kept) (hr.make (k := 0) C [u] []).depth hcd hbody hco hgen hline (hbind _ _ _) hcell hkp hne d1 d2 made1 hKe
      fun h' dx t1 tk2 k hdx hdne he' hn' => ⟨rfl, ?_⟩))
  have I2 : L2.Inv X pins σ (upd H1 (hp.objs.size + 1) (exo (hp.objs.size + 1) C none)) ⟨(hp.push (PySem.W.kdv_tup [u])).push (PySem.HandSPX.excO C hp.objs.size), g, dr, tk, osn⟩ :=
    I1.laid (t' := tk) (a := hp.objs.size + 1) (o := exo (hp.objs.size + 1) C none) (h' := (hp.push (PySem.W.kdv_tup [u])).push (PySem.HandSPX.excO C hp.objs.size)) kept le1 (exo_ok made1)
  have hd1 : hp.objs.size ≤ dx := Nat.le_trans (Nat.le_of_lt (Nat.lt_of_succ_lt (Heap.lt_size made1))) hdx
  have hnd : H1 dx = none := I1.hok.fresh hd1
  have fin := mk_made (X := X) (Q := Q) (t2 := tk2) I1 I2 le1 kept hd1 hdne hdx k he' hn' ru (raises_own T.isEx T.isTy) (q1 dx hnd)
  show MkP X pins σ Q _ _
  exact fin
theorem pmk0 {x : Str} {C : Addr} (T : Exc0 X.prog X.K C) (hms : X.mg "super" = none) (hr : Room 1 X.A) (hg : Gl X x) (hm : X.mg x = some (.ref C)) (hdb : (x == ("__debug__" : Str)) = false := by decide) :
    PMk X (.Call (.Name x p) [] [] pos) (fun _ H Q => Q (.ref C) none H) := by
  intro pins s σ H Q I h
  obtain ⟨fI, fd, cc, cda, D, slf, cd, p0, p1, p2, p4, p5, S, hbody, hcd, hco, hgen, hline, hbind, hcell, iC, tI⟩ := T.ex
  obtain ⟨nm, q, N, bs, bm, sn, sub, ab, col, dd, k0, k1, k2, k3, k5, hC, hbm⟩ := S.cls
  refine wpAny_Call_Name_kw (ld_glob I hg hm (PySem.W.callWith_K0 I.kIn T.keepC ?_) hdb)
  obtain ⟨hp, g, dr, tk, osn⟩ := s
  obtain ⟨mb, hB, hBb⟩ := I.ok.mod.blt
  have below : ∀ b o, X.base.get? b = some o → hp.get? b = some o := I.bk
  have up : ∀ b o, hp.get? b = some o → ((hp.push (PySem.W.kdv_tup [])).push (PySem.HandSPX.excO C hp.objs.size)).get? b = some o := fun b o z => Heap.get?_push_of_some _ (Heap.get?_push_of_some _ z)
  have made : ((hp.push (PySem.W.kdv_tup [])).push (PySem.HandSPX.excO C hp.objs.size)).get? (hp.objs.size + 1) = some (PySem.HandSPX.excO C hp.objs.size) := by heap_get
  have gone : hp.get? (hp.objs.size + 1) = none := by
    cases z : hp.get? (hp.objs.size + 1) with
    | none => rfl
    | some o => exact absurd (Heap.lt_size z) (by show ¬ hp.objs.size + 1 < hp.objs.size; omega)
  refine wpAny_call (PySem.HandSPX.call_own F.excBase_Exception (fun Y => PySem.W.excTail_contains Y bm hbm) (I.kIn _ _ hC) (PySem.W.looks_findIn I.kIn iC) (fun self => PySem.W.bind_fn I.kIn self tI) (by rw [sizeLine_eq]; simp)
    (init0 (A := X.A.under (.builtin "type.__call__" ⟨[.ref C], []⟩)) S (I.kIn.keeps up) ((I.ok.mod.glob.keeps below).keeps up) hms ((hB.keeps below).keeps up) ((hBb _ (by decide)).trans PyProof.Rows.Boot.«super») (I.nolimit.keeps up) (hr.make (k := 0) C [] []).depth hcd hbody hco hgen hline (hbind _ _) hcell made
      fun h' t1 tk2 k he' => ⟨rfl, ?_⟩))
  show MkP X pins σ Q _ _
  have hold : ∀ b o, hp.get? b = some o → h'.get? b = some o := fun b o z => k b o (fun e => by rw [e, gone] at z; cases z) (up b o z)
  exact ⟨_, _, _, ⟨hp, g, dr, tk, osn⟩, H, .ref C, none, rfl, I, hold, gone, he', ⟨rfl, rfl⟩, rfl, rfl, I.hok.fresh (Nat.le_succ _), rfl, I.bare, raises_own T.baseC T.kindC, h⟩
end
end Cx1
end

section
set_option Elab.async false
set_option linter.all false
set_option maxRecDepth 100000
set_option maxHeartbeats 2000000
/-! X5: isinstance of a caught exception that has a dict. -/
namespace Cx1
open PySem PySem.W PySem.Spec PySem.Calls PyProof.Rows
section
variable {prog : Program} {w : World} {A : Around} {E : Value → Shared → Prop} {s : Shared} {K : Frag} {x D : Addr} {ox : Obj} {od : Option Obj}
/-- a descriptor that takes stores goes ahead of what the object's own dict says -/
theorem found_first (C : L2.ExcC K D) : findObj K D od "__class__" = some (.bind (.builtin "getset_descriptor.__get__") (.builtin "object.__class__")) := by
  obtain ⟨cd, e, _⟩ := any_some C.hd
  simp [findObj, e, C.ha, C.hn, C.ht]
/-- e.__class__ -/
theorem class_of_exc {Q : Option Value → Shared → Prop} (C : L2.ExcC K D) (X : K.In s.heap) (I : InstAt s.heap x ox D od) (q : Q (some (.ref D)) { s with toks := s.toks + 1 }) : wpAny (model prog w) A (getAttr? (.ref x) "__class__") Q E s := by
  obtain ⟨hp, g, d, t, os⟩ := s
  have kind := I.type (M := model prog w)
  have unlike : (Value.builtin "BaseException.__getattribute__" == Value.builtin "object.__getattribute__") = false := by decide +kernel
  have plain : (onTheHeap (Value.ref D) && Value.builtin "BaseException.__getattribute__" == Value.builtin "object.__getattribute__") = false := by rw [unlike]; exact Bool.and_false _
  have isB : Looks (model prog w) hp (isInstance (.ref x) (.type "BaseException")) true := kind.andThen (looks_subIn X C.hs)
  unfold getAttr? getAttrBy?
  unfold getAttrBy
  refine wpAny_bind (wpAny_mkText (wpAny_bind (wpAny_attempt (wpAny_holding (wpAny_bind (kind.at ?_))))))
  refine wpAny_bind ((looks_findIn (M := model prog w) X C.hg).at ?_)
  refine KFB.if_not plain ?_
  unfold getAttrByItsOwn
  unfold hookBefore
  refine wpAny_bind (KFB.if_so (by rfl) ((looks_findIn (M := model prog w) X C.hk).at ?_))
  refine wpAny_bind (wpAny_attempt (wpAny_holding (?_)))
  unfold callGetattribute
  refine KFB.if_not (by rfl) ?_
  unfold boundAndCalled
  refine wpAny_bind ?_
  rw [F.excAttr_ValueError.ga.bind (.ref x)]
  refine wpAny_pure (wpAny_call (codeAny_call_builtin F.excAttr_ValueError.ga.plain F.entry_bexc_ga ?_))
  refine @check_slot (model prog w) _ _ ⟨hp, g, d, t + 1, os⟩ "BaseException.__getattribute__" "BaseException" "__getattribute__" (.ref x) [.str "__class__" t] [] _ (by decide +kernel) (by decide +kernel) isB (F.args_bexc_ga _ _) ?_
  unfold Builtin.«object.__getattribute__»
  refine wpAny_bind (wpAny_of_eq (a := ((Value.ref x : Value), [Value.str "__class__" t])) (by first | rfl | (simp only [slotArgs]; rfl)) (wpAny_bind (wpAny_pure (wpAny_bind (kind.at (wpAny_bind ?_))))))
  refine (looks_find (M := model prog w) X I (found_first C)).at ?_
  show wpAny _ _ (holding _ (call (.builtin "getset_descriptor.__get__") [.builtin "object.__class__", .ref x, .ref D]) >>= ret) _ _ _
  refine wpAny_bind (wpAny_holding (wpAny_call (class_get (s := ⟨hp, g, d, t + 1, os⟩) X I C.hm ?_)))
  refine wpAny_pure (show wpAny (model prog w) _ (handedOut (.ref D)) _ _ _ from ?_)
  have out : handedOut (.ref D) = _ := handedOut_of (v := .ref D) rfl
  rw [out]
  first
    | exact wpAny_pure q
    | exact wpAny_pure (wpAny_pure q)
    | exact wpAny_pure (wpAny_bind (wpAny_pure (wpAny_pure q)))
/-- what isinstance asks of it -/
theorem asked_of_exc (C : L2.ExcC K D) : KitX K (.ref x) (.ref D) (fun h => ∃ od, InstAt h x ox D od) := by
  have isCls : ∃ c d cd sl, K.lookup D = some ⟨c, d, .cls cd, sl⟩ := by
    obtain ⟨cd, e, _⟩ := any_some C.hd
    unfold clsIn at e
    split at e
    · exact ⟨_, _, _, _, by assumption⟩
    · cases e
  obtain ⟨c, d, cd, sl, e⟩ := isCls
  refine ⟨fun _ _ _ ⟨_, I⟩ => I.type, fun _ _ X _ => ?_, fun h tp dd its n sl X z => ?_, fun X ⟨_, I⟩ q => class_of_exc C X I q⟩
  · intro A' Q' E' s' k q
    unfold isType
    unfold loadHead
    exact wpAny_bind (wpAny_loadPart (k _ _ (X _ _ e)) (wpAny_pure q))
  · cases h1 : (Value.ref D == Value.ref tp) with
    | false => rfl
    | true =>
      obtain rfl : D = tp := Value.ref.inj (beq_iff_eq.mp h1)
      have := (X _ _ e).symm.trans z
      cases this
end
end Cx1
namespace Cx1
open PySem PySem.Spec PyProof.Rows L2
/-- isinstance(e, c), e the exception that the suite holds, of the class at D -/
def rIsD (K : PySem.W.Frag) (D a : Addr) (d : Option Addr) : List V → Hp → VK → Prop := fun xs H Q => ∃ (c : V) (cv : Value) (b : Bool), xs = [.ref a, c] ∧ (∀ u, RelV c u → u = cv) ∧ PySem.W.kitOne K (.ref D) cv = some b ∧ (d = none ∨ ∃ dx fs, d = some dx ∧ H dx = some (.xd fs)) ∧ Q (.bl b) H
theorem call_isD {X : Cx} {a D : Addr} {d : Option Addr} {oe : Obj} {pn : List (Addr × Obj)} (C : ExcC X.K D) (hz : Zc (.ref D) d oe) (hf : ∃ vs, oe.data = .fields vs) : CallR (X.suite a ((a, oe) :: pn)) (.builtin "isinstance") (rIsD X.K D a d) := by
  rintro pins s σ H xs us Q I r ⟨c, cv, b, rfl, hcv, e, hd, q⟩
  have two : ∃ v, us = [Value.ref a, v] ∧ RelV c v := by
    cases r with
    | cons h t =>
      cases t with
      | cons h2 t =>
        cases t
        exact ⟨_, by rw [show _ = Value.ref a from h], h2⟩
  obtain ⟨v, rfl, rv⟩ := two
  obtain rfl := hcv _ rv
  have there : s.heap.get? a = some oe := (I.pin (a, oe) (List.mem_append_left _ List.mem_cons_self)).1
  have J : ∃ od, PySem.W.InstAt s.heap a oe D od := by
    obtain ⟨oc, odd, oda, osl⟩ := oe
    obtain ⟨vs, hv⟩ := hf
    obtain ⟨z1, z2⟩ := hz
    dsimp only at z1 z2 hv
    subst z1 z2 hv
    rcases hd with rfl | ⟨dx, fs, rfl, hx⟩
    · exact ⟨none, there, rfl, rfl, trivial⟩
    · obtain ⟨mA, ⟨o, _, _, e1, _⟩, _⟩ : ObjOk X.prog X.w H s.heap dx (.xd fs) := I.hok dx _ hx
      exact ⟨some o, there, rfl, rfl, e1⟩
  exact PySem.W.kia_one (asked_of_exc C) I.kIn J e (fun z => nomatch z) fun tk => ⟨.bl b, H, I.kept (t' := tk) fun _ _ z => z, rfl, q⟩
end Cx1
end

section
set_option Elab.async false
set_option linter.all false
set_option maxRecDepth 100000
set_option maxHeartbeats 2000000
/-! X6: the facts of such a class read off a piece of the heap. -/
namespace Cx1
open PySem PySem.Spec PySem.W PyProof.Rows PySem.HandSPX PySem.ESX
theorem bb {a b : Bool} (h : (a && b) = true) : a = true ∧ b = true := Bool.and_eq_true_iff.mp h
/-! ### the class -/
def madeAs (sl : Array (Option Value)) : Bool := match sl with
  | ⟨[_, _, _, _, some (.builtin n), _]⟩ => decide (n = "Exception.__new__")
  | _ => false
theorem madeAs_ok {sl : Array (Option Value)} (h : madeAs sl = true) : ∃ k0 k1 k2 k3 k5, sl = #[k0, k1, k2, k3, some (.builtin "Exception.__new__"), k5] := by
  unfold madeAs at h
  split at h
  · exact ⟨_, _, _, _, _, by rw [of_decide_eq_true h]⟩
  · cases h
def lineB (C : Addr) : List Value → Bool
  | .ref c :: bm => decide (c = C) && refsE bm
  | _ => false
theorem lineB_ok {C : Addr} {l : List Value} (h : lineB C l = true) : ∃ bm, l = .ref C :: bm ∧ refsE bm = true := by
  unfold lineB at h
  split at h
  · obtain ⟨h1, h2⟩ := bb h
    exact ⟨_, by rw [of_decide_eq_true h1], h2⟩
  · cases h
def clsB (K : Frag) (C : Addr) : Bool := match K.lookup C with
  | some ⟨.type t, _, .cls cd, sl⟩ => decide (t = "type") && (lineB C cd.mro && (cd.hasDict && (!cd.hasDel && madeAs sl)))
  | _ => false
theorem clsB_ok {K : Frag} {C : Addr} (h : clsB K C = true) : (∃ nm q N bs bm sn sub ab col dd k0 k1 k2 k3 k5, K.lookup C = some (excClassObj nm q C N bs bm true sn sub ab col dd k0 k1 k2 k3 k5 "Exception.__new__") ∧ refsE bm = true) ∧ ∃ cd, clsIn K C = some cd := by
  unfold clsB at h
  split at h
  · rename_i t dd cd sl e
    obtain ⟨h1, h⟩ := bb h
    obtain ⟨h2, h⟩ := bb h
    obtain ⟨h3, h⟩ := bb h
    obtain ⟨h4, h5⟩ := bb h
    obtain ⟨bm, e2, e3⟩ := lineB_ok h2
    obtain ⟨k0, k1, k2, k3, k5, e4⟩ := madeAs_ok h5
    have e1 := of_decide_eq_true h1
    refine ⟨?_, cd, by unfold clsIn; rw [e]⟩
    obtain ⟨nm, bs, mro, ns, q, hd, sn, sub, ab, col, hdel⟩ := cd
    dsimp only at e2 h3 h4
    subst e1 e2 e4
    cases hdel with
    | true => cases h4
    | false =>
      cases hd with
      | false => cases h3
      | true => exact ⟨_, _, _, _, _, _, _, _, _, _, _, _, _, _, _, e, e3⟩
  · cases h
/-! ### its __init__ -/
/-- super().__init__(p); self.f = p: self's name, p -/
def bodyOf1 (f : Str) : FuncBody → Option (Str × Str)
  | .stmts [.Expr (.Call (.Attribute (.Call (.Name sup _) [] [] _) ini p2) [.Name p _] [] p4) _, .Assign [.Attribute (.Name slf _) g _] (.Name p' _) _] =>
    if sup = "super" ∧ ini = "__init__" ∧ p' = p ∧ g = f ∧ (p2.endLine == p4.line) = true then some (slf, p) else none
  | _ => none
theorem bodyOf1_ok {f slf p : Str} {b : FuncBody} (h : bodyOf1 f b = some (slf, p)) : ∃ p0 p1 p2 p3 p4 p5 p6 p7 p8 p9, b = .stmts [.Expr (.Call (.Attribute (.Call (.Name "super" p0) [] [] p1) "__init__" p2) [.Name p p3] [] p4) p5, .Assign [.Attribute (.Name slf p6) f p7] (.Name p p8) p9] ∧ (p2.endLine == p4.line) = true := by
  unfold bodyOf1 at h
  split at h
  · split at h
    · rename_i hh
      obtain ⟨h1, h2, h3, h4, h5⟩ := hh
      cases h
      subst h1 h2 h3 h4
      exact ⟨_, _, _, _, _, _, _, _, _, _, rfl, h5⟩
    · cases h
  · cases h
def bodyOf0 : FuncBody → Bool
  | .stmts [.Expr (.Call (.Attribute (.Call (.Name sup _) [] [] _) ini p2) [] [] p4) _] => decide (sup = "super") && (decide (ini = "__init__") && (p2.endLine == p4.line))
  | _ => false
theorem bodyOf0_ok {b : FuncBody} (h : bodyOf0 b = true) : ∃ p0 p1 p2 p4 p5, b = .stmts [.Expr (.Call (.Attribute (.Call (.Name "super" p0) [] [] p1) "__init__" p2) [] [] p4) p5] ∧ (p2.endLine == p4.line) = true := by
  unfold bodyOf0 at h
  split at h
  · obtain ⟨h1, h⟩ := bb h
    obtain ⟨h2, h3⟩ := bb h
    rw [of_decide_eq_true h1, of_decide_eq_true h2]
    exact ⟨_, _, _, _, _, rfl, h3⟩
  · cases h
def ps2 : Arguments → Option (Str × Str)
  | ⟨[], [a, b], none, [], [], none, []⟩ => some (a.arg, b.arg)
  | _ => none
def ps1 : Arguments → Option Str
  | ⟨[], [a], none, [], [], none, []⟩ => some a.arg
  | _ => none
theorem ps2_ok {a : Arguments} {x y : Str} (h : ps2 a = some (x, y)) : ∃ u v, a = ⟨[], [u, v], none, [], [], none, []⟩ ∧ u.arg = x ∧ v.arg = y := by
  unfold ps2 at h
  split at h
  · cases h; exact ⟨_, _, rfl, rfl, rfl⟩
  · cases h
theorem ps1_ok {a : Arguments} {x : Str} (h : ps1 a = some x) : ∃ u, a = ⟨[], [u], none, [], [], none, []⟩ ∧ u.arg = x := by
  unfold ps1 at h
  split at h
  · cases h; exact ⟨_, rfl, rfl⟩
  · cases h
theorem binds2 {fd : FuncData} {u v : Arg} (ne : v.arg ≠ u.arg) (h : fd.params = ⟨[], [u, v], none, [], [], none, []⟩) (hd : fd.defaults = .none) (s : Shared) (a b : Value) : BindsTo s fd ⟨[a, b], []⟩ [(u.arg, a), (v.arg, b)] := by
  obtain ⟨nm, qn, ps, bd, sc, gl, cl, df, kd, dc, pm, an, cdv, ct, bl⟩ := fd
  dsimp only at h hd
  subst h hd
  have e1 : (u.arg == u.arg) = true := beq_self_eq_true _
  have e2 : (v.arg == v.arg) = true := beq_self_eq_true _
  have e3 : (v.arg == u.arg) = false := beq_eq_false_iff_ne.mpr ne
  refine .of_eq ?_
  unfold bindArgs
  simp [seqItems?, List.lookup_cons, e1, e2, e3]
  rfl
theorem binds1 {fd : FuncData} {u : Arg} (h : fd.params = ⟨[], [u], none, [], [], none, []⟩) (hd : fd.defaults = .none) (s : Shared) (a : Value) : BindsTo s fd ⟨[a], []⟩ [(u.arg, a)] := by
  obtain ⟨nm, qn, ps, bd, sc, gl, cl, df, kd, dc, pm, an, cdv, ct, bl⟩ := fd
  dsimp only at h hd
  subst h hd
  have e1 : (u.arg == u.arg) = true := beq_self_eq_true _
  refine .of_eq ?_
  unfold bindArgs
  simp [seqItems?, List.lookup_cons, e1]
  rfl
/-- where the code's file is said -/
def fileB (F : Str) (K : Frag) (cd : Value) : Bool := match cd with
  | .ref a => (match K.lookup a with
    | some ⟨_, _, .fields vs, _⟩ => (match (vs[2]? : Option Value) with
      | some (Value.str file _) => F == file
      | _ => false)
    | _ => false)
  | _ => false
theorem fileB_ok {F : Str} {K : Frag} {cd : Value} (h : fileB F K cd = true) : ∃ cda ccl cdd vs ccs file tf, cd = .ref cda ∧ K.lookup cda = some ⟨ccl, cdd, .fields vs, ccs⟩ ∧ vs[2]? = some (.str file tf) ∧ (F == file) = true := by
  unfold fileB at h
  split at h
  · split at h
    · rename_i e
      split at h
      · rename_i e2
        exact ⟨_, _, _, _, _, _, _, rfl, e, e2, h⟩
      · cases h
    · cases h
  · cases h
def cellB (K : Frag) (C : Addr) : List (Str × Addr) → Bool
  | [(n, cc)] => decide (n = "__class__") && (match K.lookup cc with
    | some ⟨_, _, .cell (some (.ref D)), _⟩ => decide (D = C)
    | _ => false)
  | _ => false
theorem cellB_ok {K : Frag} {C : Addr} {l : List (Str × Addr)} (h : cellB K C l = true) : ∃ cc cl cld csl, l = [(("__class__" : Str), cc)] ∧ K.lookup cc = some ⟨cl, cld, .cell (some (.ref C)), csl⟩ := by
  unfold cellB at h
  split at h
  · obtain ⟨h1, h2⟩ := bb h
    split at h2
    · rename_i e
      rw [of_decide_eq_true h2] at e
      exact ⟨_, _, _, _, by rw [of_decide_eq_true h1], e⟩
    · cases h2
  · cases h
def fdOf (K : Frag) (C : Addr) : Option (Addr × FuncData) := match findIn K (.ref C) "__init__" with
  | some (some (.ref fI)) => (match K.lookup fI with
    | some ⟨_, _, .func fd, _⟩ => some (fI, fd)
    | _ => none)
  | _ => none
theorem fdOf_ok {K : Frag} {C fI : Addr} {fd : FuncData} (h : fdOf K C = some (fI, fd)) : findIn K (.ref C) "__init__" = some (some (.ref fI)) ∧ ∃ oc od osl, K.lookup fI = some ⟨oc, od, .func fd, osl⟩ := by
  unfold fdOf at h
  split at h
  · rename_i e
    split at h
    · rename_i e2
      cases h
      exact ⟨e, _, _, _, e2⟩
    · cases h
  · cases h
def kindF (sc : Scope) : Bool := match sc.kind with
  | .function => true
  | _ => false
theorem kindF_ok {sc : Scope} (h : kindF sc = true) : sc.kind = .function := by
  unfold kindF at h
  split at h
  · assumption
  · cases h
def noCell (sc : Scope) : Bool := sc.names.all fun x => match x.2 with
  | .cell => false
  | _ => true
theorem noCell_ok {sc : Scope} (h : noCell sc = true) : ∀ x ∈ sc.names, x.2 ≠ .cell := fun x hx e => by
  have := List.all_eq_true.mp h x hx
  rw [e] at this
  cases this
/-- what both kinds ask -/
def supB (F : Str) (K : Frag) (C : Addr) (fd : FuncData) (slf : Str) : Bool :=
  clsB K C && (excOver K C exTail && (hasDictIn K C && ((match clsIn K C with
    | some cd => decide (alongIn K "__init__" ((cd.mro.dropWhile (· != .ref C)).drop 1) = some (some (.builtin "Exception.__init__")))
    | none => false) && (decide (nsIn K cStatics "thirdparty.any" = some none) && (cellB K C fd.closure && (decide (fd.globals = mainGlobals) && (decide (fd.builtins = builtinsNs) && (kindF fd.scope && (decide (fd.scope.names.lookup ("super" : Str) = some .globalImplicit) && (decide (fd.scope.names.lookup ("__class__" : Str) = some .free) &&
    (decide (fd.scope.names.lookup slf = some .local) && (fileB F K fd.code && (decide (mroIn K C (.ref C) = some true) && (decide (mroIn K C (.type "Exception") = some true) && (codeIn K fd.code fd.qualname && (decide (fd.defaults = .none) && (!fd.scope.isCoroutine && (!fd.scope.isGenerator && (noCell fd.scope && (decide (subIn K (.ref C) (.type "BaseException") = some true) && (decide (typeIn K (.ref C) = some (.type "type")) && keepIn K (.ref C))))))))))))))))))))))
theorem supB_ok {prog : Program} {K : Frag} {C fI : Addr} {fd : FuncData} {slf : Str} {u : Arg} {r : List Arg} {oc : Value} {od : Option Addr} {osl : Array (Option Value)} (h : supB prog.main.file K C fd slf = true) (top : (prog.main.scope.names.lookup ("super" : Str)).isSome = false) (hf : K.lookup fI = some ⟨oc, od, .func fd, osl⟩) (hp : fd.params.posonlyargs ++ fd.params.args = u :: r) (hu : u.arg = slf) :
    (∃ cc cda cd, SupOk prog K C fI fd cc cda 0 slf cd) ∧ codeIn K fd.code fd.qualname = true ∧ fd.defaults = .none ∧ fd.scope.isCoroutine = false ∧ fd.scope.isGenerator = false ∧ (∀ x ∈ fd.scope.names, x.2 ≠ .cell) ∧ subIn K (.ref C) (.type "BaseException") = some true ∧ typeIn K (.ref C) = some (.type "type") ∧ keepIn K (.ref C) = true := by
  obtain ⟨a1, h⟩ := bb h
  obtain ⟨a2, h⟩ := bb h
  obtain ⟨a3, h⟩ := bb h
  obtain ⟨a4, h⟩ := bb h
  obtain ⟨a5, h⟩ := bb h
  obtain ⟨a6, h⟩ := bb h
  obtain ⟨a7, h⟩ := bb h
  obtain ⟨a8, h⟩ := bb h
  obtain ⟨a9, h⟩ := bb h
  obtain ⟨b1, h⟩ := bb h
  obtain ⟨b2, h⟩ := bb h
  obtain ⟨b3, h⟩ := bb h
  obtain ⟨b4, h⟩ := bb h
  obtain ⟨b5, h⟩ := bb h
  obtain ⟨b6, h⟩ := bb h
  obtain ⟨b7, h⟩ := bb h
  obtain ⟨b0, h⟩ := bb h
  obtain ⟨b8, h⟩ := bb h
  obtain ⟨b9, h⟩ := bb h
  obtain ⟨c1, h⟩ := bb h
  obtain ⟨c2, h⟩ := bb h
  obtain ⟨c3, c4⟩ := bb h
  obtain ⟨k1, cd, k2⟩ := clsB_ok a1
  rw [k2] at a4
  obtain ⟨cc, cl, cld, csl, e1, e2⟩ := cellB_ok a6
  obtain ⟨cda, ccl, cdd, vs, ccs, file, tf, e3, e4, e5, e6⟩ := fileB_ok b4
  refine ⟨⟨cc, cda, cd, ?_⟩, b7, of_decide_eq_true b0, by simpa using b8, by simpa using b9, noCell_ok c1, of_decide_eq_true c2, of_decide_eq_true c3, c4⟩
  exact ⟨k1, k2, a2, a3, of_decide_eq_true a4, of_decide_eq_true a5, ⟨_, _, _, hf⟩, e1, of_decide_eq_true a7, of_decide_eq_true a8, kindF_ok a9, of_decide_eq_true b1, of_decide_eq_true b2, of_decide_eq_true b3, ⟨u, by rw [hp]; rfl, hu⟩, e3, ⟨_, _, _, _, _, _, e4, e5, e6⟩, ⟨_, _, _, e2⟩, top, of_decide_eq_true b5, of_decide_eq_true b6⟩
def ndbg (x : Str) : Bool := !(x == ("__debug__" : Str))
def exc1B (F : Str) (K : Frag) (C : Addr) (f : Str) : Bool := match fdOf K C with
  | some (fI, fd) => (match bodyOf1 f fd.body, ps2 fd.params with
    | some (slf, p), some (x, y) => decide (x = slf) && (decide (y = p) && (supB F K C fd slf && (decide (fd.scope.names.lookup p = some .local) && (!(decide (p = slf)) && (ndbg slf && (ndbg p && (decide (typeIn K (.ref fI) = some (.type "function")) &&
        (decide (findIn K (.ref C) "__setattr__" = some (some (.builtin "object.__setattr__"))) && (decide (findIn K (.ref C) f = some none) && decide (takerIn K C f = some none))))))))))
    | _, _ => false)
  | none => false
theorem exc1B_ok {prog : Program} {K : Frag} {C : Addr} {f : Str} (h : exc1B prog.main.file K C f = true) (top : (prog.main.scope.names.lookup ("super" : Str)).isSome = false) : Exc1 prog K C f := by
  unfold exc1B at h
  split at h
  · rename_i fI fd e
    obtain ⟨iC, oc, od, osl, hf⟩ := fdOf_ok e
    split at h
    · rename_i slf p x y e1 e2
      obtain ⟨h1, h⟩ := bb h
      obtain ⟨h2, h⟩ := bb h
      obtain ⟨h3, h⟩ := bb h
      obtain ⟨h4, h⟩ := bb h
      obtain ⟨h5, h⟩ := bb h
      obtain ⟨h6, h⟩ := bb h
      obtain ⟨h7, h⟩ := bb h
      obtain ⟨h8, h⟩ := bb h
      obtain ⟨h9, h⟩ := bb h
      obtain ⟨g1, g2⟩ := bb h
      obtain rfl := of_decide_eq_true h1
      obtain rfl := of_decide_eq_true h2
      obtain ⟨p0, p1, p2, p3, p4, p5, p6, p7, p8, p9, e3, e4⟩ := bodyOf1_ok e1
      obtain ⟨u, v, e5, rfl, rfl⟩ := ps2_ok e2
      obtain ⟨⟨cc, cda, cd, S⟩, r1, r0, r2, r3, r4, r5, r6, r7⟩ := supB_ok (u := u) (r := [v]) h3 top hf (by rw [e5]; rfl) rfl
      exact ⟨⟨fI, fd, cc, cda, 0, _, _, cd, p0, p1, p2, p3, p4, p5, p6, p7, p8, p9, S, e3, r1, r2, r3, e4, fun s a b => binds2 (by simpa using h5) e5 r0 s a b, r4, of_decide_eq_true h4, by simpa using h5, by simpa [ndbg] using h6, by simpa [ndbg] using h7, iC, of_decide_eq_true h8⟩, of_decide_eq_true h9, of_decide_eq_true g1, of_decide_eq_true g2, r5, r6, r7⟩
    · cases h
  · cases h
def exc0B (F : Str) (K : Frag) (C : Addr) : Bool := match fdOf K C with
  | some (fI, fd) => (match ps1 fd.params with
    | some x => bodyOf0 fd.body && (supB F K C fd x && decide (typeIn K (.ref fI) = some (.type "function")))
    | none => false)
  | none => false
theorem exc0B_ok {prog : Program} {K : Frag} {C : Addr} (h : exc0B prog.main.file K C = true) (top : (prog.main.scope.names.lookup ("super" : Str)).isSome = false) : Exc0 prog K C := by
  unfold exc0B at h
  split at h
  · rename_i fI fd e
    obtain ⟨iC, oc, od, osl, hf⟩ := fdOf_ok e
    split at h
    · rename_i x e2
      obtain ⟨h1, h⟩ := bb h
      obtain ⟨h2, h3⟩ := bb h
      obtain ⟨p0, p1, p2, p4, p5, e3, e4⟩ := bodyOf0_ok h1
      obtain ⟨u, e5, rfl⟩ := ps1_ok e2
      obtain ⟨⟨cc, cda, cd, S⟩, r1, r0, r2, r3, r4, r5, r6, r7⟩ := supB_ok (u := u) (r := []) h2 top hf (by rw [e5]; rfl) rfl
      exact ⟨⟨fI, fd, cc, cda, 0, _, cd, p0, p1, p2, p4, p5, S, e3, r1, r2, r3, e4, fun s a => binds1 e5 r0 s a, r4, iC, of_decide_eq_true h3⟩, r5, r6, r7⟩
    · cases h
  · cases h
end Cx1
end

section
set_option Elab.async false
set_option linter.all false
set_option maxRecDepth 100000
set_option maxHeartbeats 2100000
/-! X7: t[::-1], t a list or a tuple. -/
namespace Cx1
open PySem PySem.Spec PyProof.Rows L2 HT
theorem fm_same {α β : Type} {f g : α → Option β} : ∀ {l : List α}, (∀ x ∈ l, f x = g x) → l.filterMap f = l.filterMap g
  | [], _ => rfl
  | x :: l, h => by
    rw [List.filterMap_cons, List.filterMap_cons, h x List.mem_cons_self, fm_same fun y hy => h y (List.mem_cons_of_mem _ hy)]
theorem pick_back (xs : Array Value) : ((List.range xs.size).filterMap fun (m : Nat) => xs[(((xs.size : Int) - 1) + (m : Int) * (-1)).toNat]?).toArray = xs.toList.reverse.toArray := by
  have e : ((List.range xs.size).filterMap fun (m : Nat) => xs[(((xs.size : Int) - 1) + (m : Int) * (-1)).toNat]?) = ((List.range xs.size).map (fun m => xs.size - 1 - m)).filterMap fun i => xs[i]? := by
    rw [List.filterMap_map]
    refine fm_same fun m hm => ?_
    have := List.mem_range.mp hm
    have e2 : (((xs.size : Int) - 1) + (m : Int) * (-1)).toNat = xs.size - 1 - m := by omega
    show xs[(((xs.size : Int) - 1) + (m : Int) * (-1)).toNat]? = xs[xs.size - 1 - m]?
    rw [e2]
  rw [e, PySem.W.krv_range, List.filterMap_reverse, PySem.W.krv_all]
theorem places_back (n : Nat) : Builtin.Slice.slicePlaces ((n : Int) - 1) (-1) (-1) = n := by
  unfold Builtin.Slice.slicePlaces; skip
  have h1 : ¬ ((-1 : Int) > 0) := by omega
  simp only [h1, if_false]
  by_cases big : (n : Int) - 1 > -1
  · rw [if_pos big, show (- -1 : Int) = 1 by decide, Int.ediv_one]; omega
  · rw [if_neg big]; omega
theorem adjust_back (n : Nat) : Builtin.Slice.sliceAdjust none none (-1) (n : Int) = ((n : Int) - 1, -1) := by
  unfold Builtin.Slice.sliceAdjust; skip
  have h1 : (-1 : Int) < 0 := by omega
  simp only [h1, if_true]
section
variable {s : Shared} {prog : Program} {w : World} {A : Around} {E : Value → Shared → Prop}
theorem applied_back {sl : Addr} {vs : Value} {n : Nat} {Q : Int × Int × Nat → Shared → Prop} (hs : s.heap.IsSliceOf sl .none .none vs) (ps : IsPart vs (some (-1)))
    (h : Q ((n : Int) - 1, -1, n) s) : wpAny (model prog w) A (Builtin.Slice.sliceApplied (.ref sl) (pure (n : Int))) Q E s := by
  obtain ⟨os, hOb, hCl, hFs⟩ := id hs
  unfold Builtin.Slice.sliceApplied; unfold Builtin.Slice.sliceFields
  refine wpAny_bind (wpAny_bind (wpAny_field hOb hFs (x := .none) rfl (wpAny_bind (wpAny_field hOb hFs (x := .none) rfl (wpAny_bind (wpAny_field hOb hFs (x := vs) rfl (wpAny_pure ?_)))))))
  refine wpAny_bind (slicePart_ ps ?_)
  show wpAny _ _ (if ((-1 : Int) == 0) = true then _ else _) _ _ s
  rw [if_neg (by decide)]
  refine wpAny_bind (slicePart_none (wpAny_bind (slicePart_none (wpAny_bind (wpAny_pure ?_)))))
  show wpAny _ _ (match Builtin.Slice.sliceAdjust none none (-1) (n : Int) with | (lo, hi) => pure (lo, (-1 : Int), Builtin.Slice.slicePlaces lo hi (-1))) _ _ s
  rw [adjust_back n]
  show wpAny _ _ (pure (((n : Int) - 1), (-1 : Int), Builtin.Slice.slicePlaces ((n : Int) - 1) (-1) (-1))) _ _ s
  rw [places_back]
  exact wpAny_pure h
theorem getItem_back {t sl : Addr} {elems : Array Value} {vs : Value} {Q : Value → Shared → Prop} (hTup : IsTup s.heap t elems) (hs : s.heap.IsSliceOf sl .none .none vs) (ps : IsPart vs (some (-1)))
    (h : Q (.ref s.heap.objs.size) { s with heap := s.heap.push { cls := .type "tuple", data := .seq elems.toList.reverse.toArray } })
    (hLen : elems.size ≤ sizeLine) : wpAny (model prog w) A (getItem (.ref t) (.ref sl)) Q E s := by
  have fits : sizeOk (.seq elems.toList.reverse.toArray) := by
    show elems.toList.reverse.toArray.size ≤ sizeLine
    rw [List.size_toArray, List.length_reverse, Array.length_toList]
    exact hLen
  obtain ⟨os, hOb, hCl, hFs⟩ := id hs
  have isSl : s.TypeIs (.ref sl) "slice" := ⟨os, hOb, hCl⟩
  unfold getItem
  (try with_reducible refine wpAny_holding ?_); (first | refine wpAny_bind (wpAny_pure ?_) | skip)
  refine wpAny_bind (wpAny_sequenceKey hTup.typeIs (by decide) ?_); refine wpAny_bind (wpAny_callSpecial?_slot (name := Str.ofString "__getitem__") hTup.typeIs PyProof.Rows.slot_tuple_getitem
    (wpAny_call_entry PyProof.Rows.slot_tuple_getitem hTup.typeIs entry_tuple_getitem ?_ (args_tuple_getitem _ _)))
  show wpAny _ _ (Builtin.Tuple.tupleItemsOf (.ref t) >>= _) _ _ s; refine wpAny_bind (tupleItemsOf_ hTup ?_)
  refine wpAny_bind (wpAny_typeOf isSl ?_)
  rw [if_pos (by decide)]
  refine wpAny_bind (applied_back hs ps ?_)
  have notWhole : ¬ ((((elems.size : Int) - 1) == 0 && (-1 : Int) == 1 && elems.size == elems.size) = true) := by
    intro q
    simp only [Bool.and_eq_true] at q
    exact absurd q.1.2 (by decide)
  show wpAny _ _ (if (((elems.size : Int) - 1) == 0 && (-1 : Int) == 1 && elems.size == elems.size) = true then _ else _) _ _ s
  rw [if_neg notWhole, pick_back]
  first
    | exact wpAny_bind (m := Builtin.Tuple.tupleExact _) (wpAny_newObj_type (wpAny_pure ⟨_, rfl, wpAny_pure h⟩) fits)
    | exact wpAny_bind (m := Builtin.Tuple.tupleExact _) (wpAny_newObj_type (wpAny_bind (wpAny_pure (wpAny_pure ⟨_, rfl, wpAny_pure h⟩))) fits)
    | exact wpAny_bind (wpAny_bind (m := Builtin.Tuple.tupleExact _) (wpAny_newObj_type (wpAny_pure (wpAny_pure ⟨_, rfl, wpAny_pure h⟩)) fits))
    | exact wpAny_bind (wpAny_bind (m := Builtin.Tuple.tupleExact _) (wpAny_newObj_type (wpAny_pure ⟨_, rfl, wpAny_pure h⟩) fits))
end
/-- e[::-1] of a list or of a tuple -/
def tBack (K : PySem.W.Frag) (te : TE) : TE := fun σ H Q => te σ H fun x Ha => ∃ a xs, x = .ref a ∧ ((SqL K Ha a xs ∧ ∀ p, Ha p = none → Q (.ref p) (upd Ha p (.lst xs.reverse))) ∨ (SqT K Ha a xs ∧ ∀ p, Ha p = none → Q (.ref p) (upd Ha p (.tup xs.reverse))))
theorem pe_back {X : Cx} {e : Expr} {te : TE} {k : Nat} {p1 p2 p3 pos : Pos} (he : PE X e te) : PE X (.Subscript e (.Slice none none (some (.UnaryOp .USub (.Constant (.int 1) k p1) p2)) p3) pos) (tBack X.K te) := by
  refine ⟨fun pins s σ H Q I h => ?_⟩
  refine Subscript_ (thn (he.run pins s σ H _ I h) fun v sa ⟨x, Ha, Ia, ra, qa⟩ => ?_)
  obtain ⟨a, xs, ex, q⟩ := qa
  subst ex
  cases ra
  have hStep : PO X (some (.UnaryOp .USub (.Constant (.int 1) k p1) p2)) (tPart (tUn (rU fun i => .int (-i)) (tC (.int 1)))) := po_some (pe_un un_neg pe_int)
  refine wpAny_Slice (thn (po_none.run pins sa σ Ha (fun o Hb => o = none ∧ Hb = Ha) Ia ⟨rfl, rfl⟩) fun vl sb ⟨l, Hb, Ib, pLo, el, e2⟩ => ?_)
  subst el e2
  refine thn (po_none.run pins sb σ Hb (fun o Hc => o = none ∧ Hc = Hb) Ib ⟨rfl, rfl⟩) fun vu sc ⟨u, Hc, Ic, pHi, eu, e3⟩ => ?_
  subst eu e3
  refine thn (hStep.run pins sc σ Hc (fun o Hd => o = some (-1) ∧ Hd = Hc) Ic ⟨1, rfl, -1, rfl, rfl, rfl⟩) fun vs sd ⟨o, Hd, Id, ps, eo, e4⟩ => ?_
  subst eo e4
  have Ie : Inv X pins σ Hd { sd with heap := sd.heap.push { cls := .type "slice", data := .fields #[vl, vu, vs] } } := Id.kept (t' := sd.toks) fun b ob q => Heap.get?_push_of_some _ q
  show wpAny (model X.prog X.w) X.A (subscriptTail e (.Slice none none (some (.UnaryOp .USub (.Constant (.int 1) k p1) p2)) p3) (.ref a) (.ref sd.heap.objs.size)) (EP X pins σ Q) X.xe { sd with heap := sd.heap.push { cls := .type "slice", data := .fields #[vl, vu, vs] } }
  rcases q with ⟨hx, q⟩ | ⟨hx, q⟩
  · obtain ⟨its, r, hTup, hFit⟩ := Ie.list hx
    have hlen := r.length
    refine tail_any (ops := [.ref a, .ref sd.heap.objs.size]) hTup.isList.typeIs (PySem.slot_list_getitem.lookup) ?_ (by with_unfolding_all rfl)
    refine wpAny_getItem_list_slice hTup.isList (Heap.IsSliceOf.new _ vl vu vs) pLo pHi ps (by decide) ?_ (by rw [List.size_toArray]; omega)
    rw [PySem.W.krv_pick]
    refine ⟨.ref _, _, Ie.laid (t' := sd.toks) (o := .lst xs.reverse) (fun b ob q => Heap.get?_push_of_some _ q) (Nat.le_refl _) ?_, rfl, q _ (Ie.hok.fresh (Nat.le_refl _))⟩
    exact ⟨by rw [List.length_reverse]; exact hFit, _, 0, r.reverse, Heap.get?_push_size _ rfl⟩
  · obtain ⟨its, r, hTup, hFit⟩ := Ie.tuple hx
    have hlen := r.length
    cases pLo
    cases pHi
    refine tail_any (ops := [.ref a, .ref sd.heap.objs.size]) hTup.typeIs (PyProof.Rows.slot_tuple_getitem.lookup) ?_ (by with_unfolding_all rfl)
    refine getItem_back hTup (Heap.IsSliceOf.new _ .none .none vs) ps ?_ (by rw [List.size_toArray]; omega)
    refine ⟨.ref _, _, Ie.laid (t' := sd.toks) (o := .tup xs.reverse) (fun b ob q => Heap.get?_push_of_some _ q) (Nat.le_refl _) ?_, rfl, q _ (Ie.hok.fresh (Nat.le_refl _))⟩
    exact ⟨by rw [List.length_reverse]; exact hFit, _, r.reverse, IsTup.new _ _⟩
end Cx1
end

section
set_option Elab.async false
set_option linter.all false
set_option maxRecDepth 100000
/-! X8: x in t, x not in t, t a tuple of data of any depth. -/
namespace Cx1
open PySem PySem.Spec PyProof.Rows L2
section
variable {X : Cx}
def rTupHas (K : PySem.W.Frag) (neg : Bool) : R2 := fun x y H Q => ∃ a as, Dp K H x a ∧ Dp K H y (.tuple as) ∧ (SeqAt.shaped a = true ∧ SeqAt.shaped (.tuple as) = true) ∧ Q (.bl (if neg then !(as.any fun z => PyData.eqv z a) else as.any fun z => PyData.eqv z a)) H
theorem op_tupHas (room : X.A.units + 65 < cLine) : OpR X (compareOp .In) (rTupHas X.K false) := fun pins s σ H x y v u Q I rx ry ⟨a, as, ha, hb, ⟨s1, s2⟩, q⟩ => by
  obtain ⟨_, r1⟩ := Dp.reads I a x v ha rx
  obtain ⟨_, r2⟩ := Dp.reads I (.tuple as) y u hb ry
  exact SeqAt.in_tuple_reads r2 r1 (SeqAt.canLay_of_shaped s2) (SeqAt.canLay_of_shaped s1) (room_in_shaped s1 room) ⟨.bl _, H, I, rfl, q⟩
theorem op_tupHasNot (room : X.A.units + 65 < cLine) : OpR X (compareOp .NotIn) (rTupHas X.K true) := fun pins s σ H x y v u Q I rx ry ⟨a, as, ha, hb, ⟨s1, s2⟩, q⟩ => by
  obtain ⟨_, r1⟩ := Dp.reads I a x v ha rx
  obtain ⟨_, r2⟩ := Dp.reads I (.tuple as) y u hb ry
  exact SeqAt.notIn_tuple_reads r2 r1 (SeqAt.canLay_of_shaped s2) (SeqAt.canLay_of_shaped s1) (room_in_shaped s1 room) ⟨.bl _, H, I, rfl, q⟩
end
end Cx1
end

section
set_option Elab.async false
set_option linter.all false
set_option maxRecDepth 100000
set_option maxHeartbeats 2000000
/-! X9: sorting tuples of which the first is the empty one. -/
namespace Cx1
open PySem PySem.W PySem.Calls PySem.SeqAt PyProof.Rows
section
variable {prog : Program} {w : World} {A : Around} {E : Value → Shared → Prop} {s : Shared}
/-- tuple's own __lt__, as sorting calls it -/
theorem tup_lt {Q : Value → Shared → Prop} {l b : Addr} {as bs : Array Value} {e r : Nat → Bool} (hl : s.heap.IsTuple l as) (hb : s.heap.IsTuple b bs)
    (he : ∀ j (h1 : j < as.size) (h2 : j < bs.size), EqAt A.in1 s as[j] bs[j] (e j)) (hr : ∀ j (h1 : j < as.size) (h2 : j < bs.size), e j = false → RcLt A.in1 s as[j] bs[j] (r j))
    (h : Q (.bool (firstLt e r (decide (as.size < bs.size)) (List.range (min as.size bs.size)))) s) : wpAny (model prog w) A (call (.builtin "tuple.__lt__") [.ref l, .ref b]) Q E s := by
  obtain ⟨⟨c1, d1, x1, sl1⟩, o1, k1, n1, y1⟩ := id hl
  obtain ⟨⟨c2, d2, x2, sl2⟩, o2, k2, n2, y2⟩ := id hb
  simp only at k1 y1 k2 y2
  subst k1 y1 k2 y2
  exact call_meets F.slot_tuple_lt ⟨_, o1, rfl⟩ F.entry_tuple_lt (F.args_tuple_lt_2 _ _) (tuple_ltAt l b as bs n1 n2 d1 d2 sl1 sl2 e r) ⟨o1, o2, he, hr, h⟩
/-- one tuple against another, where all keys are of one type -/
theorem one_lt {xs ys : List PyData} {a b : Value} {ra rb : List Addr} {Q : Bool → Shared → Prop} (qa : Reads s.heap a (.tuple xs) ra) (qb : Reads s.heap b (.tuple ys) rb) (h : alike (.tuple xs) (.tuple ys) = true)
    (hu : A.units + min (PyData.tuple xs).depth (PyData.tuple ys).depth < cLine) (hq : Q (dataLt (.tuple xs) (.tuple ys)) s) : wpAny (model prog w) A (oneLt' true a b) Q E s := by
  have hal : alikeAll xs ys = true := by simpa [alike] using h
  cases qa with
  | @tuple l o vs n _ as₁ h1 h2 h3 h4 =>
    cases qb with
    | @tuple l' o' vs' n' _ bs₁ k1 k2 k3 k4 =>
      have e1 : vs.size = xs.length := by simpa using ReadsAll.length _ _ _ h4
      have e2 : vs'.size = ys.length := by simpa using ReadsAll.length _ _ _ k4
      rw [dataLt_tuple, ← firstLt_toks xs ys hal, ← e1, ← e2] at hq
      rw [oneLt'_eq]
      simp only [if_true]
      refine wpAny_bind (wpAny_cRoomFor (room_here hu) (wpAny_bind (wpAny_callSpecialIfBound?_slot (T := "tuple") ⟨_, h1, h2⟩ F.slot_tuple_lt (tup_lt (e := pairEq xs ys) (r := fun j => dataLt (xs.getD j .none) (ys.getD j .none)) ⟨_, h1, h2, _, h3⟩ ⟨_, k1, k2, _, k3⟩ (fun j j1 j2 => ?_) (fun j j1 j2 hj => ?_) (wpAny_truthy_bool hq)))))
      · have z := eqAt_alikeAll xs ys A.in1 s vs.toList vs'.toList _ _ h4 k4 hal (room_in hu) j (by simpa using j1) (by simpa using j2)
        simpa using z
      · have z := rcLt_alikeAll xs ys A.in1 s vs.toList vs'.toList _ _ h4 k4 hal (room_in hu) j (by simpa using j1) (by simpa using j2) hj
        simpa using z
/-- the keys' first items -/
theorem firsts : ∀ {vs : List Value} {ds : List PyData}, EachIs (fun v d => ∃ as, Reads s.heap v d as) vs ds → (∀ d, d ∈ ds → ∃ xs, d = .tuple xs) → ∃ fs : List (Option Value), (∀ {Q : List (Option Value) → Shared → Prop}, Q fs s → wpAny (model prog w) A (vs.mapM firstOfTuple') Q E s) ∧ (∀ r, ds = .tuple [] :: r → ∃ fr, fs = none :: fr)
  | _, _, .nil, _ => ⟨[], fun q => by rw [List.mapM_nil]; exact wpAny_pure q, fun r z => nomatch z⟩
  | _, _, .cons (a := v) (b := d) ⟨as, r⟩ t, ht => by
    obtain ⟨fs, f1, _⟩ := firsts t fun d hd => ht d (List.mem_cons_of_mem _ hd)
    obtain ⟨xs, rfl⟩ := ht d (List.mem_cons_self ..)
    cases r with
    | @tuple a o its n _ _ ho hc hd hr =>
      refine ⟨its[0]? :: fs, fun q => ?_, fun r z => ?_⟩
      · rw [List.mapM_cons]
        refine wpAny_bind ?_
        rw [kas_first_eq]
        refine wpAny_bind (wpAny_typeOf (T := "tuple") ⟨_, ho, hc⟩ ?_)
        rw [if_neg (by decide)]
        refine wpAny_bind (listItems_at ho hd (wpAny_pure ?_))
        exact wpAny_bind (f1 (wpAny_pure q))
      · cases z
        have : its.size = 0 := by simpa using ReadsAll.length _ _ _ hr
        exact ⟨fs, by rw [Array.getElem?_eq_none (by omega)]⟩
theorem kind0 {vs : List Value} {r : List PyData} (e : EachIs (fun v d => ∃ as, Reads s.heap v d as) vs (.tuple [] :: r)) (ht : ∀ d, d ∈ PyData.tuple [] :: r → ∃ xs, d = .tuple xs) {Q : SortKind → Shared → Prop} (h : Q oneType' s) : wpAny (model prog w) A (keyKind' vs.toArray) Q E s := by
  obtain ⟨fs, f1, f2⟩ := firsts (prog := prog) (w := w) (A := A) (E := E) e ht
  obtain ⟨fr, rfl⟩ := f2 r rfl
  have hT : ∀ v ∈ vs, s.TypeIs v "tuple" := fun v hv => by
    obtain ⟨d, hd, as, q⟩ := e.left v hv
    obtain ⟨xs, rfl⟩ := ht d hd
    cases q with
    | tuple ho hc _ _ => exact ⟨_, ho, hc⟩
  rw [kat_kind_eq, List.mapM_toArray, map_eq_pure_bind]
  refine wpAny_bind (wpAny_bind (f1 (wpAny_pure ?_)))
  rw [if_neg (by simp), if_neg (by simp)]
  rw [oneTypeOnly'_eq, List.mapM_toArray, map_eq_pure_bind]
  refine wpAny_bind (wpAny_bind (wpAny_bind (kas_mapM (r := Value.type "tuple") _ (fun v hv Q' hq => wpAny_typeOf (hT v hv) hq) (wpAny_pure ?_))))
  cases vs with
  | nil => cases e
  | cons v₁ rest =>
    have all1 : ((List.map (fun _ => Value.type "tuple") (v₁ :: rest)).toArray.all fun x => x == Value.type "tuple") = true := by
      simp only [List.all_toArray, List.all_map, List.all_eq_true]
      intro _ _
      show (Value.type "tuple" == Value.type "tuple") = true
      decide
    have h0 : (List.map (fun _ => Value.type "tuple") (v₁ :: rest)).toArray[0]? = some (Value.type "tuple") := by simp
    rw [h0]
    simp only [all1, if_true]
    exact wpAny_pure (wpAny_pure h)
theorem sorts0 {vs : List Value} {r : List PyData} (e : EachIs (fun v d => ∃ as, Reads s.heap v d as) vs (.tuple [] :: r)) (ht : ∀ d, d ∈ PyData.tuple [] :: r → ∃ xs, d = .tuple xs) (hal : AllAlike (.tuple [] :: r)) (hu : ∀ d, d ∈ PyData.tuple [] :: r → A.units + d.depth < cLine) : SortsAt prog w A s (dataKind s.heap (.tuple [] :: r)) vs := by
  refine ⟨fun v hv => ?_, oneType', fun E x y a b Q ha hb hq => ?_, fun h2 E Q hq => kind0 e ht hq⟩
  · obtain ⟨d, hd, as, q⟩ := e.left v hv
    exact ⟨_, dataKind_some hal hd q⟩
  · obtain ⟨d, as, hd, ra, rfl⟩ := dataKind_inv ha
    obtain ⟨d', as', hd', rb, rfl⟩ := dataKind_inv hb
    have al := hal d hd d' hd'
    have hm := hu d hd
    obtain ⟨xs, rfl⟩ := ht d hd
    obtain ⟨ys, rfl⟩ := ht d' hd'
    rw [keyLt'_oneType]
    exact one_lt ra rb al (Nat.lt_of_le_of_lt (Nat.add_le_add_left (Nat.min_le_left _ _) _) hm) hq
variable {β : Type} {vs : List Value} {bs : List β} {enc : β → PyData} {R : Value → β → Prop}
/-- sorted(xs), the first item an empty tuple, all of them tuples -/
theorem sorted0 {l : Addr} {Q : Value → Shared → Prop} (hl : s.heap.IsList l vs.toArray) (e : EachIs R vs bs) (er : EachIs (fun v b => ∃ as, Reads s.heap v (enc b) as) vs bs) (hal : AllAlike (bs.map enc)) {r : List PyData} (h0 : bs.map enc = .tuple [] :: r) (ht : ∀ d, d ∈ bs.map enc → ∃ xs, d = .tuple xs) (hL : bs.length ≤ sizeLine)
    (hu : ∀ b, b ∈ bs → A.units + 2 + (enc b).depth < cLine) (h : ∀ out, out.length = bs.length → EachIs R out (bs.mergeSort (dataLe false enc)) → Q (.ref (s.heap.objs.size + 1)) { s with heap := sortedAll s.heap vs (List.toArray out) }) :
    wpAny (model prog w) A (call (.builtin "sorted") [.ref l]) Q E s := by
  have later : EachIs (fun v b => ∃ as, Reads (sortingHeap (copyHeap s.heap vs) (s.heap.objs.size + 1) vs) v (enc b) as) vs bs := er.mono fun _ _ ⟨as, q⟩ => ⟨as, PyProof.Rows.Reads.keeps (fun _ _ => sorting_copy_old) q⟩
  have mapped := each_map (R := fun v d => ∃ as, Reads (sortingHeap (copyHeap s.heap vs) (s.heap.objs.size + 1) vs) v d as) enc later
  have bound : ∀ d, d ∈ bs.map enc → A.units + 2 + d.depth < cLine := fun d hd => by
    obtain ⟨b, hb, rfl⟩ := List.mem_map.mp hd
    exact hu b hb
  have done := sortVals_data (enc := enc) false e later hal
  rw [h0] at mapped bound done hal ht
  exact sorted_vals hl (sorts0 (s := { s with heap := sortingHeap (copyHeap s.heap vs) (s.heap.objs.size + 1) vs }) mapped ht hal bound) (by rw [e.length]; exact hL)
    (h _ (by rw [sortVals_length false rfl]; exact e.length) done)
end
end Cx1
end

section
set_option Elab.async false
set_option linter.all false
set_option maxRecDepth 100000
set_option maxHeartbeats 4000000
/-! Cw1: a small language I of expressions and statements, its data D, and what running it yields. -/
namespace Cw
open PySem L2

/-- data: atoms, tuples, lists that nobody changes (sc: such as came from outside), references to objects that may change -/
inductive D where
  | non | bl (b : Bool) | int (i : Int) | str (x : Str)
  | tup (xs : List D) | fl (xs : List D) | sc (xs : List D) | ref (n : Nat)

/-- objects that may change -/
inductive O where
  | lst (xs : List D)
  | dct (kvs : List (Key × D))

/-- what an expression yields: data, or an object that nobody else holds -/
inductive RV where
  | d (v : D) | lst (xs : List D) | dct (kvs : List (Key × D))

abbrev Hh := List O
abbrev Sg := List (Option D)
structure Ex where
  c : Nat
  as : List D
inductive R (α : Type) where
  | ok (a : α) (h : Hh)
  | exc (x : Ex) (h : Hh)
  | stuck

namespace R
def bind {α β : Type} (r : R α) (f : α → Hh → R β) : R β := match r with
  | .ok a h => f a h
  | .exc x h => .exc x h
  | .stuck => .stuck
/-- an exception is nothing that is told of here -/
def noX {α : Type} (r : R α) : R α := match r with
  | .exc _ _ => .stuck
  | r => r
def ofO {α : Type} (o : Option α) (h : Hh) : R α := match o with
  | some a => .ok a h
  | none => .stuck
end R

inductive Bop where | add | sub | mul | fdiv | mod | pow | band | shl
  deriving DecidableEq
inductive Cop where | lt | le | gt | ge | eq | ne | isin | notin | is | isnot
  deriving DecidableEq
inductive Bi where | len | tuple | list | sorted | sum | all | any | abs | max | min | int | str | repr
  deriving DecidableEq
inductive Mt where | append | extend | pop | get | items | index | count | join | split
  deriving DecidableEq
inductive Ty where | int | bool | str | tuple | list | dict
  deriving DecidableEq

/-- expressions, what is walked, targets -/
inductive I where
  | v (i : Nat)
  | c (d : D)
  | g (x : Str) (d : D)
  | no
  | tup (es : List I) | lst (es : List I)
  | dct (es : List I)
  | lrg (t : Bool) (es : List I) | rcmp (n : Bool) (a b : I)
  | bin (o : Bop) (a b : I)
  | neg (a : I) | nt (a : I) | and (es : List I) | or (es : List I)
  | cmp (o : Cop) (a b : I) | chn (o p : Cop) (a b c : I) | chn3 (o p q : Cop) (a b c d : I)
  | ife (c a b : I)
  | ix (a i : I) | sl (a lo hi : I) | rev (a : I)
  | call (m : Bool) (f : Nat) (x : Str) (es : List I) (ks : List Str) (es2 : List I)
  | bi (b : Bi) (es : List I)
  | isi (a : I) (ts : List Ty)
  | mth (m : Mt) (o : I) (es : List I)
  | mut (e : I)
  | lc (e t i c : I) (w : List (Str × Nat))
  | lc2 (e t i t2 : I) (es2 : List I) (w w2 : List (Str × Nat))
  | it (e : I) | rng (es : List I) | enum (e : I) | zip (a b : I)

/-- expressions of an except suite: what is read of the exception, too -/
inductive HE where
  | v (i : Nat) | c (d : D) | fld (j : Nat) (f : Str) | isx (ks : List Nat) (x : Str) | tup (es : List HE)
  | bin (o : Bop) (a b : HE) | cmp (o : Cop) (a b : HE) | and (a b : HE)
/-- what an except suite does -/
inductive Hd where
  | ret (e : HE) | set (j : Nat) (e : HE) | pass | nev
/-- statements -/
inductive S where
  | set (t : I) (e : I)
  | aug (i : Nat) (o : Bop) (e : I)
  | exp (e : I)
  | ret (e : I) | ret0
  | ifs (c : I) (a b : List S)
  | fr (t i : I) (b : List S)
  | wh (k : Nat) (c : I) (b : List S)
  | pass | brk | cnt | nev
  | zret (i : Nat) (a b : I) (q : Bi) (e t c : I) (w : List (Str × Nat))
  | zfr (i : Nat) (a b t : I) (body : List S)
  | rs (k : Nat) (x : Str) (es : List I)
  | tr (b : List S) (ks no : List Nat) (x : Str) (i : Option Nat) (hd : Hd)

/-! ### data -/
mutual
def D.pure : D → Bool
  | .tup xs => D.pures xs
  | .fl xs => D.pures xs
  | .sc xs => D.pures xs
  | .ref _ => false
  | _ => true
def D.pures : List D → Bool
  | [] => true
  | x :: xs => D.pure x && D.pures xs
end
mutual
def D.p : D → PyData
  | .non => .none
  | .bl b => .bool b
  | .int i => .int i
  | .str x => .str x
  | .tup xs => .tuple (D.ps xs)
  | .fl xs => .list (D.ps xs)
  | .sc xs => .list (D.ps xs)
  | .ref _ => .none
def D.ps : List D → List PyData
  | [] => []
  | x :: xs => D.p x :: D.ps xs
end
mutual
/-- data whose repr is short enough -/
def D.rp : D → Bool
  | .int i => decide (i.natAbs < 1000000000000)
  | .str x => x.cps.toList.all fun c => decide (c < 4294967296)
  | .tup xs => D.rps xs
  | .fl xs => D.rps xs
  | .sc xs => D.rps xs
  | .ref _ => false
  | _ => true
def D.rps : List D → Bool
  | [] => true
  | x :: xs => D.rp x && D.rps xs
end
def rpOk (d : D) : Bool := d.rp && decide (d.p.weight ≤ 1048576) && decide (d.p.depth ≤ 60)
def RV.toD : RV → Option D
  | .d v => some v
  | .lst xs => some (.fl xs)
  | .dct _ => none
/-- the items of a list or a tuple -/
def RV.seq (h : Hh) : RV → Option (List D)
  | .d (.tup xs) => some xs
  | .d (.fl xs) => some xs
  | .d (.sc xs) => some xs
  | .d (.ref n) => (match h[n]? with
    | some (.lst xs) => some xs
    | _ => none)
  | .lst xs => some xs
  | _ => none
/-- the items of a list -/
def RV.lis (h : Hh) : RV → Option (List D)
  | .d (.fl xs) => some xs
  | .d (.ref n) => (match h[n]? with
    | some (.lst xs) => some xs
    | _ => none)
  | .lst xs => some xs
  | _ => none
/-- a value as the library's data: references to lists of data alone are followed -/
def RV.py (h : Hh) : RV → Option PyData
  | .d (.ref n) => (match h[n]? with
    | some (.lst xs) => if D.pures xs then some (.list (D.ps xs)) else none
    | _ => none)
  | .d v => if v.pure then some v.p else none
  | .lst xs => if D.pures xs then some (.list (D.ps xs)) else none
  | .dct _ => none
/-- a value as data alone -/
def RV.pd (h : Hh) : RV → Option D
  | .d (.ref n) => (match h[n]? with
    | some (.lst xs) => if D.pures xs then some (.fl xs) else none
    | _ => none)
  | .d v => if v.pure then some v else none
  | .lst xs => if D.pures xs then some (.fl xs) else none
  | .dct _ => none
def keyOf : D → Option Key
  | .int i => some (.inl i)
  | .str x => some (.inr x)
  | _ => none
def getK (kvs : List (Key × D)) (k : Key) : Option D := (kvs.find? fun kv => decide (kv.1 = k)).map (·.2)
def setK (kvs : List (Key × D)) (k : Key) (v : D) : List (Key × D) :=
  if (kvs.any fun kv => decide (kv.1 = k)) = true then kvs.map (fun kv => if kv.1 = k then (kv.1, v) else kv) else kvs ++ [(k, v)]

/-- keys and values by turns -/
def pairK : List D → Option (List (Key × D))
  | [] => some []
  | [_] => none
  | k :: v :: r => match keyOf k, pairK r with
    | some k, some l => some ((k, v) :: l)
    | _, _ => none
def mergeD (more : List (Key × D)) : List (Key × D) := more.foldl (fun acc kv => setK acc kv.1 kv.2) []

mutual
/-- the same data -/
def D.beqA : D → D → Bool
  | .non, .non => true
  | .bl a, .bl b => a == b
  | .int a, .int b => decide (a = b)
  | .str a, .str b => decide (a = b)
  | .tup a, .tup b => D.beqsA a b
  | .fl a, .fl b => D.beqsA a b
  | .sc a, .sc b => D.beqsA a b
  | _, _ => false
def D.beqsA : List D → List D → Bool
  | [], [] => true
  | x :: xs, y :: ys => D.beqA x y && D.beqsA xs ys
  | _, _ => false
end

/-! ### operators -/
def line : Nat := 16777216
def binOp (o : Bop) (x y : RV) (h : Hh) : Option RV :=
  match o, x, y with
  | .add, .d (.int i), .d (.int j) => some (.d (.int (i + j)))
  | .sub, .d (.int i), .d (.int j) => some (.d (.int (i - j)))
  | .mul, .d (.int i), .d (.int j) => if i.natAbs.log2 + j.natAbs.log2 < 1000000 then some (.d (.int (i * j))) else none
  | .fdiv, .d (.int i), .d (.int j) => if 0 < j ∧ j.natAbs.log2 < 9000 then some (.d (.int (i / j))) else none
  | .mod, .d (.int i), .d (.int j) => if 0 < j then some (.d (.int (i % j))) else none
  | .pow, .d (.int i), .d (.int j) => if 0 ≤ j ∧ j ≤ 1000000 ∧ i.natAbs < 2 ^ 64 then some (.d (.int (i ^ j.toNat))) else none
  | .add, .d (.str i), .d (.str j) => if i.length + j.length ≤ line then some (.d (.str (i ++ j))) else none
  | .add, .d (.tup xs), .d (.tup ys) => if xs.length + ys.length ≤ line then some (.d (.tup (xs ++ ys))) else none
  | .add, x, y => match x.lis h, y.lis h with
    | some xs, some ys => if xs.length + ys.length ≤ line then some (.lst (xs ++ ys)) else none
    | _, _ => none
  | .mul, x, .d (.int k) => match x.lis h with
    | some xs => if 0 ≤ k ∧ k < 2 ^ 63 ∧ xs.length * k.toNat ≤ line then some (.lst (List.replicate k.toNat xs).flatten) else none
    | none => none
  | _, _, _ => none

/-- comparisons -/
def cmpOp (o : Cop) (x y : RV) (h : Hh) : Option Bool :=
  match o, x, y with
  | .lt, .d (.int i), .d (.int j) => some (decide (i < j))
  | .le, .d (.int i), .d (.int j) => some (decide (i ≤ j))
  | .gt, .d (.int i), .d (.int j) => some (decide (j < i))
  | .ge, .d (.int i), .d (.int j) => some (decide (j ≤ i))
  | .eq, x, y => match x.py h, y.py h with
    | some a, some b => if SeqAt.shaped a && SeqAt.shaped b then some (PyData.eqv a b) else none
    | _, _ => none
  | .ne, x, y => match x.py h, y.py h with
    | some a, some b => if SeqAt.shaped a && SeqAt.shaped b then some (!PyData.eqv a b) else none
    | _, _ => none
  | .isin, x, y => match x.py h, y.py h with
    | some a, some (.list b) => if SeqAt.shaped a && SeqAt.shaped (.list b) then some (b.any fun z => PyData.eqv z a) else none
    | some a, some (.tuple b) => if SeqAt.shaped a && SeqAt.shaped (.tuple b) then some (b.any fun z => PyData.eqv z a) else none
    | _, _ => none
  | .notin, x, y => match x.py h, y.py h with
    | some a, some (.list b) => if SeqAt.shaped a && SeqAt.shaped (.list b) then some (!b.any fun z => PyData.eqv z a) else none
    | some a, some (.tuple b) => if SeqAt.shaped a && SeqAt.shaped (.tuple b) then some (!b.any fun z => PyData.eqv z a) else none
    | _, _ => none
  | .is, .d x, .d .non => some (match x with | .non => true | _ => false)
  | .isnot, .d x, .d .non => some (match x with | .non => false | _ => true)
  | .is, .d (.bl a), .d (.bl b) => some (decide (a = b))
  | .isnot, .d (.bl a), .d (.bl b) => some (!decide (a = b))
  | _, _, _ => none


/-- the item at an index -/
def atD {α : Type} (xs : List α) (i : Int) : Option α := (ixN xs.length i).bind fun j => xs[j]?
def cutD {α : Type} (xs : List α) (lo hi : Option Int) : List α :=
  (xs.drop (HT.sIx xs.length 0 lo)).take (HT.sIx xs.length xs.length hi - HT.sIx xs.length 0 lo)
def I.isNo : I → Bool
  | .no => true
  | _ => false
/-- a bound of a slice -/
def intOf : RV → Option Int
  | .d (.int i) => some i
  | _ => none
def bound (b : Bool) (x : RV) : Option (Option Int) := if b then some none else (intOf x).map some

def chr1 (c : Nat) : D := .str ⟨#[c]⟩
/-- the items of a list, also of one from outside -/
def RV.lisc (h : Hh) : RV → Option (List D)
  | .d (.sc xs) => some xs
  | x => x.lis h
/-- a[i] -/
def dgetOp (x : RV) (y : D) (h : Hh) : Option D := match x with
  | .d (.ref n) => (match h[n]? with
    | some (.dct kvs) => (keyOf y).bind fun k => getK kvs k
    | _ => none)
  | _ => none
def sixOp (z : Str) (y : D) : Option D := match y with
  | .int i => if z.length ≤ line then (atD z.cps.toList i).map chr1 else none
  | _ => none
def qixOp (xs : List D) (y : D) : Option D := match y with
  | .int i => atD xs i
  | _ => none
def strOf : RV → Option Str
  | .d (.str z) => some z
  | _ => none
def ixOp (x : RV) (y : D) (h : Hh) : Option D :=
  match strOf x with
  | some z => sixOp z y
  | none => match x.seq h with
    | some xs => qixOp xs y
    | none => dgetOp x y h
/-- a[lo:hi] -/
def slOp (x : RV) (l r : Option Int) (h : Hh) : Option RV :=
  match x with
  | .d (.str z) => if z.length ≤ line then some (.d (.str (cutS z l r))) else none
  | .d (.tup xs) => some (.d (.tup (cutD xs l r)))
  | x => (x.lisc h).map fun xs => .lst (cutD xs l r)
def revOp (x : RV) (h : Hh) : Option RV := match x with
  | .d (.tup xs) => some (.d (.tup xs.reverse))
  | x => (x.lisc h).map fun xs => .lst xs.reverse

def intsD : List D → Option (List Int)
  | [] => some []
  | .int i :: r => (intsD r).map (i :: ·)
  | _ :: _ => none
def boolsD : List D → Option (List Bool)
  | [] => some []
  | .bl i :: r => (boolsD r).map (i :: ·)
  | _ :: _ => none
def strsD : List D → Option (List Str)
  | [] => some []
  | .str i :: r => (strsD r).map (i :: ·)
  | _ :: _ => none

/-- whether some data can be sorted by the library's rule: alike, tuples with an item, or no tuples and no None -/
def alikeTo (d : PyData) : List PyData → Bool
  | [] => true
  | e :: r => PySem.W.alike d e && alikeTo d r
def allAlike (all : List PyData) : List PyData → Bool
  | [] => true
  | d :: r => alikeTo d all && allAlike all r
def isTup1 : PyData → Bool
  | .tuple (_ :: _) => true
  | _ => false
def noTup : PyData → Bool
  | .tuple _ => false
  | .none => false
  | _ => true
def isTup : PyData → Bool
  | .tuple _ => true
  | _ => false
/-- tuples, the first one empty -/
def tup0 : List PyData → Bool
  | .tuple [] :: r => r.all isTup
  | _ => false
def isInt : PyData → Bool
  | .int _ => true
  | _ => false
/-- tuples of ints; tuples of such -/
def tupI : PyData → Bool
  | .tuple xs => xs.all isInt
  | _ => false
def tupII : PyData → Bool
  | .tuple xs => xs.all tupI
  | _ => false
def alikes (ds : List PyData) : Bool := (ds.all tupI || ds.all tupII) || allAlike ds ds
def sortable (ds : List PyData) : Bool := ((ds.all isTup1 || ds.all noTup) || tup0 ds) && alikes ds && ds.all fun d => decide (d.depth ≤ 60)
def mergeF {α : Type} (le : α → α → Bool) : Nat → List α → List α → List α
  | 0, xs, ys => xs ++ ys
  | _ + 1, [], ys => ys
  | _ + 1, x :: xs, [] => x :: xs
  | n + 1, x :: xs, y :: ys => if le x y then x :: mergeF le n xs (y :: ys) else y :: mergeF le n (x :: xs) ys
def msF {α : Type} (le : α → α → Bool) : Nat → List α → List α
  | 0, xs => xs
  | _ + 1, [] => []
  | _ + 1, [a] => [a]
  | n + 1, a :: b :: r => mergeF le (r.length + 2) (msF le n ((a :: b :: r).take ((r.length + 3) / 2))) (msF le n ((a :: b :: r).drop ((r.length + 3) / 2)))
def sortD (xs : List D) : List D := msF (PySem.W.dataLe false D.p) xs.length xs
def sortOp (xs : List D) : Option (List D) := if D.pures xs && sortable (D.ps xs) then some (sortD xs) else none

/-- calls of built-in functions -/
def biOp (b : Bi) (xs : List RV) (h : Hh) : Option RV :=
  match b, xs with
  | .len, [.d (.str z)] => if z.length ≤ line then some (.d (.int z.length)) else none
  | .len, [.d (.ref n)] => (match h[n]? with
    | some (.lst xs) => some (.d (.int xs.length))
    | some (.dct kvs) => some (.d (.int kvs.length))
    | none => none)
  | .len, [x] => (x.seq h).map fun xs => .d (.int xs.length)
  | .tuple, [x] => (x.seq h).map fun xs => .d (.tup xs)
  | .list, [x] => (x.seq h).map fun xs => .lst xs
  | .sorted, [x] => ((x.seq h).bind sortOp).map .lst
  | .sum, [x] => ((x.lisc h).bind intsD).map fun ns => .d (.int ns.sum)
  | .all, [x] => ((x.lisc h).bind boolsD).map fun ns => .d (.bl (ns.all id))
  | .any, [x] => ((x.lisc h).bind boolsD).map fun ns => .d (.bl (ns.any id))
  | .abs, [.d (.int i)] => some (.d (.int (if i < 0 then -i else i)))
  | .max, [.d (.int i), .d (.int j)] => some (.d (.int (if j > i then j else i)))
  | .min, [.d (.int i), .d (.int j)] => some (.d (.int (if j < i then j else i)))
  | .int, [.d (.int i)] => some (.d (.int i))
  | .str, [.d (.int i)] => if i.natAbs.log2 < 1920 then some (.d (.str (PySem.Str.ofString (toString i)))) else none
  | .str, [.d (.str x)] => some (.d (.str x))
  | _, _ => none

def lstAt (x : RV) (h : Hh) : Bool := match x with
  | .d (.ref n) => (match h[n]? with
    | some (.lst _) => true
    | _ => false)
  | _ => false
/-- methods of lists, dicts, texts: what is handed back, the heap behind -/
def mtOp (m : Mt) (o : RV) (xs : List D) (h : Hh) : Option (RV × Hh) :=
  match m, o, xs with
  | .append, .d (.ref n), [x] => (match h[n]? with
    | some (.lst ys) => if ys.length < line then some (.d .non, h.set n (.lst (ys ++ [x]))) else none
    | _ => none)
  | .pop, .d (.ref n), [] => (match h[n]? with
    | some (.lst ys) => (ys[ys.length - 1]?).map fun y => (.d y, h.set n (.lst ys.dropLast))
    | _ => none)
  | .extend, .d (.ref n), [.fl zs] => (match h[n]? with
    | some (.lst ys) => if ys.length + zs.length ≤ line then some (.d .non, h.set n (.lst (ys ++ zs))) else none
    | _ => none)
  | _, _, _ => none

/-! ### what is walked -/
inductive Src where
  | vals (xs : List D) | cell (n : Nat)
def srcOf (x : RV) (h : Hh) : Option Src :=
  match x with
  | .d (.ref n) => (match h[n]? with
    | some (.lst _) => some (.cell n)
    | _ => none)
  | .d (.str z) => if z.length ≤ line then some (.vals (z.cps.toList.map chr1)) else none
  | x => (x.seq h).map .vals
def Src.items (h : Hh) : Src → List D
  | .vals xs => xs
  | .cell n => (match h[n]? with
    | some (.lst xs) => xs
    | _ => [])
def Src.cur (h : Hh) (i : Nat) (x : D) : Src → Option D
  | .vals _ => some x
  | .cell n => (match h[n]? with
    | some (.lst xs) => xs[i]?
    | _ => none)
def Src.fin (h : Hh) (i : Nat) : Src → Bool
  | .vals _ => true
  | .cell n => (match h[n]? with
    | some (.lst xs) => decide (xs.length ≤ i)
    | _ => false)
def rngOp : List D → Option (List D)
  | [.int j] => if -(2 ^ 40) ≤ j ∧ j ≤ 16777216 then some ((List.range j.toNat).map fun (i : Nat) => .int ((0 : Int) + i)) else none
  | [.int i, .int j] => if -(2 ^ 40) ≤ i ∧ i < 2 ^ 40 ∧ -(2 ^ 40) ≤ j ∧ j < 2 ^ 40 ∧ j - i ≤ 16777216 then some ((List.range (j - i).toNat).map fun (k : Nat) => .int (i + k)) else none
  | [.int i, .int j, .int s] =>
    if s ≠ 0 ∧ s.natAbs < 1073741824 ∧ Builtin.Range.small i j s = true ∧ Builtin.Range.rangeSize i j s = ((Builtin.Range.rangeSize i j s).toNat : Int) ∧ (Builtin.Range.rangeSize i j s).toNat ≤ 16777216 then
      some ((List.range (Builtin.Range.rangeSize i j s).toNat).map fun (k : Nat) => .int (i + k * s)) else none
  | _ => none
def enumD (xs : List D) : List D := xs.mapIdx fun i x => .tup [.int i, x]
def zipD (xs ys : List D) : List D := List.zipWith (fun x y => .tup [x, y]) xs ys

/-- a name, a tuple of names as the target of a comprehension, of a for -/
def putAll : List I → List D → Sg → Option Sg
  | [], [], σ => some σ
  | .v i :: ts, d :: ds, σ => putAll ts ds (σ.set i (some d))
  | _, _, _ => none
def putT (t : I) (d : D) (σ : Sg) : Option Sg :=
  match t, d with
  | .v i, d => some (σ.set i (some d))
  | .tup ts, .tup ds => putAll ts ds σ
  | _, _ => none
def wipeD (σ : Sg) : List (Str × Nat) → Sg
  | [] => σ
  | v :: vs => (wipeD σ vs).set v.2 none

/-- the turns of a comprehension -/
def turns (t : I) (c : Sg → Hh → R RV) (e : Sg → Hh → R RV) (s : Src) (σ : Sg) : List D → Nat → Hh → R (List D)
  | [], i, h => if s.fin h i then .ok [] h else .stuck
  | x :: r, i, h => match s.cur h i x with
    | none => .stuck
    | some x => match putT t x σ with
      | none => .stuck
      | some σ1 => (c σ1 h).noX.bind fun b h1 => match b with
        | .d (.bl true) => (e σ1 h1).noX.bind fun y h2 => match y.toD with
          | none => .stuck
          | some y => (turns t c e s σ r (i + 1) h2).bind fun l h3 => .ok (y :: l) h3
        | .d (.bl false) => turns t c e s σ r (i + 1) h1
        | _ => .stuck

/-- the turns of the inner one of two walks: over data that nobody changes -/
def inner (t : I) (e : Sg → Hh → R RV) (σ : Sg) : List D → Hh → R (List D)
  | [], h => .ok [] h
  | y :: r, h => match putT t y σ with
    | none => .stuck
    | some σ1 => (e σ1 h).noX.bind fun v h1 => match v.toD with
      | none => .stuck
      | some d => (inner t e σ r h1).bind fun l h2 => .ok (d :: l) h2
/-- the turns of the outer one -/
def outer (t : I) (b : Sg → Hh → R (List D)) (s : Src) (σ : Sg) : List D → Nat → Hh → R (List D)
  | [], i, h => if s.fin h i then .ok [] h else .stuck
  | x :: r, i, h => match s.cur h i x with
    | none => .stuck
    | some x => match putT t x σ with
      | none => .stuck
      | some σ1 => (b σ1 h).noX.bind fun ys h1 => (outer t b s σ r (i + 1) h1).bind fun l h2 => .ok (ys ++ l) h2
def fewR (n : Nat) {α : Type} (r : R α) : R α := if n < 4000 then r else .stuck
def inR (t : I) (e : Sg → Hh → R RV) (σ : Sg) (ds : List D) (h : Hh) : R (List D) := match rngOp ds with
  | none => .stuck
  | some ys => fewR ys.length (inner t e σ ys h)

def unbox (rv : RV) (h : Hh) : Option RV := match rv with
  | .d (.ref n) => (match h[n]? with
    | some (.lst xs) => if D.pures xs then some (.lst xs) else none
    | _ => none)
  | .d v => if v.pure then some (.d v) else none
  | .lst xs => if D.pures xs then some (.lst xs) else none
  | .dct _ => none
/-- a call of a def: by data alone (its heap is its own), or over the heap -/
def callOp (cf : Bool → Nat → List D → Hh → R RV) (m : Bool) (f : Nat) (xs : List D) (h : Hh) : R RV :=
  if m then cf true f xs h else
    if D.pures xs then match cf false f xs [] with
      | .ok rv h1 => R.ofO (unbox rv h1) h
      | .exc x _ => if D.pures x.as then .exc x h else .stuck
      | .stuck => .stuck
    else .stuck
def isTy : Ty → D → Bool
  | .int, .int _ => true
  | .int, .bl _ => true
  | .bool, .bl _ => true
  | .str, .str _ => true
  | .tuple, .tup _ => true
  | .list, .fl _ => true
  | .list, .sc _ => true
  | _, _ => false

/-- the kind of what an expression yields: ref: an object that changes, list or dict -/
def isOp (ts : List Ty) (x : RV) (h : Hh) : Option Bool := match x with
  | .d (.ref n) => (match h[n]? with
    | some (.lst _) => some (ts.any fun t => decide (t = Ty.list))
    | some (.dct _) => some (ts.any fun t => decide (t = Ty.dict))
    | none => none)
  | .d d => some (ts.any fun t => isTy t d)
  | .lst _ => some (ts.any fun t => decide (t = Ty.list))
  | .dct _ => some (ts.any fun t => decide (t = Ty.dict))

section
variable (cf : Bool → Nat → List D → Hh → R RV)
mutual
def ev : I → Sg → Hh → R RV
  | .v i, σ, h => match σ[i]? with
    | some (some d) => .ok (.d d) h
    | _ => .stuck
  | .c d, _, h => .ok (.d d) h
  | .g _ d, _, h => .ok (.d d) h
  | .no, _, h => .ok (.d .non) h
  | .tup es, σ, h => (evs es σ h).bind fun ds h => .ok (.d (.tup ds)) h
  | .lst es, σ, h => (evs es σ h).bind fun ds h => .ok (.lst ds) h
  | .dct es, σ, h => (evs es σ h).bind fun ds h => match pairK ds with
    | some kvs => .ok (.dct (mergeD kvs)) h
    | none => .stuck
  | .lrg t es, σ, h => (evs es σ h).bind fun ds h => R.ofO ((rngOp ds).map fun xs => if t then .d (.tup xs) else .lst xs) h
  | .rcmp n a b, σ, h => (ev a σ h).bind fun x h => match x.pd h with
    | none => .stuck
    | some p => if rpOk p then (ev b σ h).bind fun y h => (match y.pd h with
      | none => .stuck
      | some q => if D.beqA p q then .ok (.d (.bl (!n))) h else .stuck) else .stuck
  | .bin o a b, σ, h => (ev a σ h).bind fun x h => (ev b σ h).bind fun y h => R.ofO (binOp o x y h) h
  | .neg a, σ, h => (ev a σ h).bind fun x h => match x with
    | .d (.int i) => .ok (.d (.int (-i))) h
    | _ => .stuck
  | .nt a, σ, h => (ev a σ h).bind fun x h => match x with
    | .d (.bl b) => .ok (.d (.bl (!b))) h
    | _ => .stuck
  | .and es, σ, h => eva es σ h
  | .or es, σ, h => evo es σ h
  | .cmp o a b, σ, h => (ev a σ h).bind fun x h => (ev b σ h).bind fun y h => R.ofO ((cmpOp o x y h).map fun b => .d (.bl b)) h
  | .chn o p a b c, σ, h => (ev a σ h).bind fun x h => (ev b σ h).bind fun y h => match cmpOp o x y h with
    | some true => (ev c σ h).bind fun z h => R.ofO ((cmpOp p y z h).map fun b => .d (.bl b)) h
    | some false => .ok (.d (.bl false)) h
    | none => .stuck
  | .chn3 o p q a b c d, σ, h => (ev a σ h).bind fun x h => (ev b σ h).bind fun y h => match cmpOp o x y h with
    | some true => (ev c σ h).bind fun z h => match cmpOp p y z h with
      | some true => (ev d σ h).bind fun w h => R.ofO ((cmpOp q z w h).map fun b => .d (.bl b)) h
      | some false => .ok (.d (.bl false)) h
      | none => .stuck
    | some false => .ok (.d (.bl false)) h
    | none => .stuck
  | .ife c a b, σ, h => (ev c σ h).bind fun x h => match x with
    | .d (.bl true) => ev a σ h
    | .d (.bl false) => ev b σ h
    | _ => .stuck
  | .ix a i, σ, h => (ev a σ h).bind fun x h => (ev i σ h).bind fun y h => match y with
    | .d y => R.ofO ((ixOp x y h).map .d) h
    | _ => .stuck
  | .sl a lo hi, σ, h => (ev a σ h).bind fun x h => (ev lo σ h).bind fun l h => match bound lo.isNo l with
    | none => .stuck
    | some l => (ev hi σ h).bind fun r h => match bound hi.isNo r with
      | none => .stuck
      | some r => R.ofO (slOp x l r h) h
  | .rev a, σ, h => (ev a σ h).bind fun x h => R.ofO (revOp x h) h
  | .call m f _ es _ ks, σ, h => (evs es σ h).bind fun ds h => (evs ks σ h).bind fun zs h => callOp cf m f (ds ++ zs) h
  | .bi b es, σ, h => (evr es σ h).bind fun xs h => R.ofO (biOp b xs h) h
  | .isi a ts, σ, h => (ev a σ h).bind fun x h => R.ofO ((isOp ts x h).map fun b => .d (.bl b)) h
  | .mth m o es, σ, h => (ev o σ h).bind fun x h => if lstAt x h then (evs es σ h).bind fun ds h => match mtOp m x ds h with
      | some (y, h) => .ok y h
      | none => .stuck
    else .stuck
  | .mut e, σ, h => (ev e σ h).bind fun x h => match x with
    | .lst xs => .ok (.d (.ref h.length)) (h ++ [.lst xs])
    | .dct kvs => .ok (.d (.ref h.length)) (h ++ [.dct kvs])
    | .d _ => .stuck
  | .lc e t i c w, σ, h => (evi i σ h).bind fun s h => (turns t (ev c) (ev e) s (wipeD σ w) (s.items h) 0 h).bind fun l h => .ok (.lst l) h
  | .lc2 e t i t2 es2 w w2, σ, h => (evi i σ h).bind fun s h => fewR (s.items h).length ((outer t (fun σ h => (evs es2 σ h).bind fun ds h => inR t2 (ev e) (wipeD σ w2) ds h) s (wipeD σ w) (s.items h) 0 h).bind fun l h => .ok (.lst l) h)
  | .it _, _, _ => .stuck
  | .rng _, _, _ => .stuck
  | .enum _, _, _ => .stuck
  | .zip _ _, _, _ => .stuck
/-- data in a row -/
def evs : List I → Sg → Hh → R (List D)
  | [], _, h => .ok [] h
  | e :: es, σ, h => (ev e σ h).bind fun x h => match x.toD with
    | none => .stuck
    | some d => (evs es σ h).bind fun ds h => .ok (d :: ds) h
def eva : List I → Sg → Hh → R RV
  | [], _, _ => .stuck
  | [e], σ, h => ev e σ h
  | e :: e2 :: r, σ, h => (ev e σ h).bind fun x h => match x with
    | .d (.bl true) => eva (e2 :: r) σ h
    | .d (.bl false) => .ok (.d (.bl false)) h
    | _ => .stuck
def evo : List I → Sg → Hh → R RV
  | [], _, _ => .stuck
  | [e], σ, h => ev e σ h
  | e :: e2 :: r, σ, h => (ev e σ h).bind fun x h => match x with
    | .d (.bl false) => evo (e2 :: r) σ h
    | .d (.bl true) => .ok (.d (.bl true)) h
    | _ => .stuck
/-- values in a row -/
def evr : List I → Sg → Hh → R (List RV)
  | [], _, h => .ok [] h
  | e :: es, σ, h => (ev e σ h).bind fun x h => (evr es σ h).bind fun xs h => .ok (x :: xs) h
/-- what is walked -/
def evi : I → Sg → Hh → R Src
  | .it e, σ, h => (ev e σ h).bind fun x h => R.ofO (srcOf x h) h
  | .rng es, σ, h => (evs es σ h).bind fun ds h => R.ofO ((rngOp ds).map .vals) h
  | .enum e, σ, h => (ev e σ h).bind fun x h => match x with
    | .d (.ref _) => .stuck
    | x => R.ofO ((x.lisc h).map fun xs => .vals (enumD xs)) h
  | .zip a b, σ, h => (ev a σ h).bind fun x h => (ev b σ h).bind fun y h => match x, y with
    | .d (.ref _), _ => .stuck
    | _, .d (.ref _) => .stuck
    | .d (.tup xs), .d (.tup ys) => .ok (.vals (zipD xs ys)) h
    | x, y => R.ofO ((x.lisc h).bind fun xs => (y.lisc h).map fun ys => .vals (zipD xs ys)) h
  | _, _, _ => .stuck
end

/-! ### statements -/
inductive F where
  | nx (σ : Sg) | rt (v : RV) | bk (σ : Sg) | ct (σ : Sg)
inductive RF where
  | ok (f : F) (h : Hh) | exc (x : Ex) (σ : Sg) (h : Hh) | stuck
def RF.of {α : Type} (r : R α) (σ : Sg) (k : α → Hh → RF) : RF := match r with
  | .ok a h => k a h
  | .exc x h => .exc x σ h
  | .stuck => .stuck
def putI (n : Nat) (i : D) (d : D) (h : Hh) : Option Hh := match h[n]? with
  | some (.lst xs) => (match i with
    | .int k => (ixN xs.length k).map fun j => h.set n (.lst (xs.set j d))
    | _ => none)
  | some (.dct kvs) => (keyOf i).bind fun k => if kvs.length < line then some (h.set n (.dct (setK kvs k d))) else none
  | none => none
def tgt : I → D → Sg → Hh → R Sg
  | .v i, d, σ, h => .ok (σ.set i (some d)) h
  | .ix o i, d, σ, h => (ev cf o σ h).bind fun x h => (ev cf i σ h).bind fun y h => match x, y with
    | .d (.ref n), .d y => (match putI n y d h with
      | some h => .ok σ h
      | none => .stuck)
    | _, _ => .stuck
  | _, _, _, _ => .stuck
def tgts : List I → List D → Sg → Hh → R Sg
  | [], [], σ, h => .ok σ h
  | t :: ts, d :: ds, σ, h => (tgt cf t d σ h).bind fun σ h => tgts ts ds σ h
  | _, _, _, _ => .stuck
def asg : I → D → Sg → Hh → R Sg
  | .tup ts, .tup ds, σ, h => tgts cf ts ds σ h
  | .v i, d, σ, h => .ok (σ.set i (some d)) h
  | .ix o i, d, σ, h => tgt cf (.ix o i) d σ h
  | _, _, _, _ => .stuck
def forL (t : I) (b : Sg → Hh → RF) (s : Src) : List D → Nat → Sg → Hh → RF
  | [], i, σ, h => if s.fin h i then .ok (.nx σ) h else .stuck
  | x :: r, i, σ, h => match s.cur h i x with
    | none => .stuck
    | some x => match putT t x σ with
      | none => .stuck
      | some σ => match b σ h with
        | .ok (.nx σ) h => forL t b s r (i + 1) σ h
        | .ok (.ct σ) h => forL t b s r (i + 1) σ h
        | .ok (.bk σ) h => .ok (.nx σ) h
        | .ok (.rt v) h => .ok (.rt v) h
        | .exc x σ h => .exc x σ h
        | .stuck => .stuck
def whL (c : Sg → Hh → R RV) (b : Sg → Hh → RF) : Nat → Sg → Hh → RF
  | 0, _, _ => .stuck
  | n + 1, σ, h => RF.of (c σ h) σ fun x h => match x with
    | .d (.bl true) => (match b σ h with
      | .ok (.nx σ) h => whL c b n σ h
      | .ok (.ct σ) h => whL c b n σ h
      | .ok (.bk σ) h => .ok (.nx σ) h
      | .ok (.rt v) h => .ok (.rt v) h
      | .exc x σ h => .exc x σ h
      | .stuck => .stuck)
    | .d (.bl false) => .ok (.nx σ) h
    | _ => .stuck
/-! ### except suites -/
mutual
def hev (y : Ex) : HE → Sg → Hh → R RV
  | .v i, σ, h => match σ[i]? with
    | some (some d) => .ok (.d d) h
    | _ => .stuck
  | .c d, _, h => .ok (.d d) h
  | .fld j _, _, h => match y.as[j]? with
    | some d => .ok (.d d) h
    | none => .stuck
  | .isx ks _, _, h => .ok (.d (.bl (ks.contains y.c))) h
  | .tup es, σ, h => (hevs y es σ h).bind fun ds h => .ok (.d (.tup ds)) h
  | .bin o a b, σ, h => (hev y a σ h).bind fun x h => (hev y b σ h).bind fun z h => R.ofO (binOp o x z h) h
  | .cmp o a b, σ, h => (hev y a σ h).bind fun x h => (hev y b σ h).bind fun z h => R.ofO ((cmpOp o x z h).map fun b => .d (.bl b)) h
  | .and a b, σ, h => (hev y a σ h).bind fun x h => match x with
    | .d (.bl true) => hev y b σ h
    | .d (.bl false) => .ok (.d (.bl false)) h
    | _ => .stuck
def hevs (y : Ex) : List HE → Sg → Hh → R (List D)
  | [], _, h => .ok [] h
  | e :: es, σ, h => (hev y e σ h).bind fun x h => match x.toD with
    | none => .stuck
    | some d => (hevs y es σ h).bind fun ds h => .ok (d :: ds) h
end
def hdl (y : Ex) : Hd → Sg → Hh → RF
  | .ret e, σ, h => RF.of (hev y e σ h).noX σ fun x h => .ok (.rt x) h
  | .set j e, σ, h => RF.of (hev y e σ h).noX σ fun x h => match x.toD with
    | none => .stuck
    | some d => .ok (.nx (σ.set j (some d))) h
  | .pass, σ, h => .ok (.nx σ) h
  | .nev, _, _ => .stuck
/-- the exception's name is forgotten -/
def off (i : Option Nat) (σ : Sg) : Sg := match i with
  | some i => σ.set i none
  | none => σ
def offF (i : Option Nat) (r : RF) : RF := match r with
  | .ok (.nx σ) h => .ok (.nx (off i σ)) h
  | .ok (.bk σ) h => .ok (.bk (off i σ)) h
  | .ok (.ct σ) h => .ok (.ct (off i σ)) h
  | r => r
def inI (i : Option Nat) (σ : Sg) : Bool := match i with
  | some i => decide (i < σ.length)
  | none => true
def catchF (ks no : List Nat) (i : Option Nat) (hd : Hd) (r : RF) : RF := match r with
  | .exc y σ h => if ks.contains y.c then (if inI i σ then offF i (hdl y hd (off i σ) h) else .stuck) else if no.contains y.c then .exc y σ h else .stuck
  | r => r
def isAug : Bop → Bool
  | .add => true
  | .sub => true
  | _ => false
mutual
def ex : S → Sg → Hh → RF
  | .set t e, σ, h => RF.of (ev cf e σ h) σ fun x h => match x.toD with
    | none => .stuck
    | some d => RF.of (asg cf t d σ h).noX σ fun σ h => .ok (.nx σ) h
  | .aug i o e, σ, h => match σ[i]? with
    | some (some (.int x)) => RF.of (ev cf e σ h) σ fun y h => match y with
      | .d (.int y) => (match o with
        | .add => .ok (.nx (σ.set i (some (.int (x + y))))) h
        | .sub => .ok (.nx (σ.set i (some (.int (x - y))))) h
        | _ => .stuck)
      | _ => .stuck
    | _ => .stuck
  | .exp e, σ, h => RF.of (ev cf e σ h) σ fun _ h => .ok (.nx σ) h
  | .ret e, σ, h => RF.of (ev cf e σ h) σ fun x h => .ok (.rt x) h
  | .ret0, _, h => .ok (.rt (.d .non)) h
  | .ifs c a b, σ, h => RF.of (ev cf c σ h) σ fun x h => match x with
    | .d (.bl true) => exs a σ h
    | .d (.bl false) => exs b σ h
    | _ => .stuck
  | .fr t i b, σ, h => RF.of (evi cf i σ h) σ fun s h => forL t (exs b) s (s.items h) 0 σ h
  | .wh k c b, σ, h => whL (ev cf c) (exs b) k σ h
  | .pass, σ, h => .ok (.nx σ) h
  | .brk, σ, h => .ok (.bk σ) h
  | .cnt, σ, h => .ok (.ct σ) h
  | .nev, _, _ => .stuck
  | .zret i a b q e t c w, σ, h => if i < σ.length then RF.of (evi cf (.zip a b) σ h) σ fun s h => RF.of ((turns t (ev cf c) (ev cf e) s (wipeD (σ.set i none) w) (s.items h) 0 h).bind fun l h => R.ofO (biOp q [.lst l] h) h) (σ.set i none) fun x h => .ok (.rt x) h else .stuck
  | .zfr i a b t body, σ, h => if i < σ.length then RF.of (evi cf (.zip a b) σ h) σ fun s h => forL t (exs body) s (s.items h) 0 (σ.set i none) h else .stuck
  | .rs k _ es, σ, h => RF.of (evs cf es σ h) σ fun ds h => .exc ⟨k, ds⟩ σ h
  | .tr b ks no _ i hd, σ, h => catchF ks no i hd (exs b σ h)
def exs : List S → Sg → Hh → RF
  | [], σ, h => .ok (.nx σ) h
  | s :: r, σ, h => match ex s σ h with
    | .ok (.nx σ) h => exs r σ h
    | x => x
end
end

/-- a def: its parameters, its names by slot, its body -/
structure Fn where
  ps : List Str
  ns : List Str
  body : List S
abbrev Tb := Nat → Option Fn
def run (tb : Tb) : Nat → Nat → List D → Hh → R RV
  | 0, _, _, _ => .stuck
  | n + 1, f, xs, h => match tb f with
    | none => .stuck
    | some fn => if xs.length = fn.ps.length then
        match exs (fun _ => run tb n) fn.body (xs.map some ++ List.replicate (fn.ns.length - xs.length) none) h with
        | .ok (.rt v) h => .ok v h
        | .ok (.nx _) h => .ok (.d .non) h
        | .exc x _ h => .exc x h
        | _ => .stuck
      else .stuck
abbrev runB (tb : Tb) (n : Nat) : Bool → Nat → List D → Hh → R RV := fun _ => run tb n
end Cw
end

section
set_option Elab.async false
set_option linter.all false
set_option maxRecDepth 100000
set_option maxHeartbeats 4000000
/-! Cw2: how data stand in the abstract heap of the hand layer, and how a step keeps that. -/
namespace Cw
open PySem PySem.Spec PyProof.Rows L2

theorem line_eq : line = sizeLine := by rw [sizeLine_eq]; rfl

/-- G is a part of H -/
def Sub (G H : Hp) : Prop := ∀ a o, G a = some o → H a = some o

/-- a list that nobody changes -/
def FL (K : PySem.W.Frag) (m : List Addr) (G : Hp) (a : Addr) (vs : List V) : Prop :=
  (∃ o, G a = some (.frz o (.lst vs))) ∨
  (∃ (o : Obj) (its : Array Value) (n : Nat), K.lookup a = some o ∧ o.cls = .type "list" ∧ o.dict = none ∧ o.data = .seq its n ∧ its.size ≤ sizeLine ∧ Vals vs its.toList) ∨
  (G a = some (.lst vs) ∧ a ∉ m)

mutual
inductive RD (K : PySem.W.Frag) (m : List Addr) (G : Hp) : D → V → Prop
  | non : RD K m G .non .non
  | bl (b : Bool) : RD K m G (.bl b) (.bl b)
  | int (i : Int) : RD K m G (.int i) (.int i)
  | str (x : Str) : RD K m G (.str x) (.str x)
  | tup {a : Addr} {vs : List V} {xs : List D} : SqT K G a vs → RDs K m G xs vs → RD K m G (.tup xs) (.ref a)
  | fl {a : Addr} {vs : List V} {xs : List D} : G a = some (.lst vs) → a ∉ m → RDs K m G xs vs → RD K m G (.fl xs) (.ref a)
  | sc {a : Addr} {vs : List V} {xs : List D} : FL K m G a vs → RDs K m G xs vs → RD K m G (.sc xs) (.ref a)
  | ref {a : Addr} {n : Nat} : m[n]? = some a → RD K m G (.ref n) (.ref a)
inductive RDs (K : PySem.W.Frag) (m : List Addr) (G : Hp) : List D → List V → Prop
  | nil : RDs K m G [] []
  | cons {d : D} {v : V} {ds : List D} {vs : List V} : RD K m G d v → RDs K m G ds vs → RDs K m G (d :: ds) (v :: vs)
end
inductive RKs (K : PySem.W.Frag) (m : List Addr) (G : Hp) : List (Key × D) → List (Key × V) → Prop
  | nil : RKs K m G [] []
  | cons {k : Key} {d : D} {v : V} {ds : List (Key × D)} {vs : List (Key × V)} : RD K m G d v → RKs K m G ds vs → RKs K m G ((k, d) :: ds) ((k, v) :: vs)
/-- an object that may change -/
def RO (K : PySem.W.Frag) (m : List Addr) (G : Hp) (a : Addr) : O → Prop
  | .lst xs => ∃ vs, G a = some (.lst vs) ∧ RDs K m G xs vs
  | .dct kvs => ∃ ws, G a = some (.dK ws) ∧ RKs K m G kvs ws
structure Rel (K : PySem.W.Frag) (m : List Addr) (h : Hh) (G : Hp) : Prop where
  len : m.length = h.length
  nd : m.Nodup
  obj : ∀ (n : Nat) (o : O) (a : Addr), h[n]? = some o → m[n]? = some a → RO K m G a o
/-- what an expression yielded, begun at H0: data, or a new object that nothing else names (it stands in H and is hidden from G) -/
def RR (K : PySem.W.Frag) (H0 : Hp) (m : List Addr) (G H : Hp) : RV → V → Prop
  | .d d, v => RD K m G d v
  | .lst xs, v => ∃ p vs, v = .ref p ∧ H p = some (.lst vs) ∧ G p = none ∧ p ∉ m ∧ H0 p = none ∧ RDs K m G xs vs
  | .dct kvs, v => ∃ p ws, v = .ref p ∧ H p = some (.dK ws) ∧ G p = none ∧ p ∉ m ∧ H0 p = none ∧ RKs K m G kvs ws
/-- the names of the frame -/
structure RS (K : PySem.W.Frag) (m : List Addr) (G : Hp) (σ : Sg) (t : L2.St) : Prop where
  len : σ.length = t.length
  get : ∀ (i : Nat) (d : D), σ[i]? = some (some d) → ∃ v, t[i]? = some (some v) ∧ RD K m G d v
/-- a step -/
structure Stp (m : List Addr) (G H : Hp) (m' : List Addr) (G' H' : Hp) : Prop where
  sub : Sub G H
  sub2 : Sub G' H'
  pre : ∃ r, m' = m ++ r
  new : ∀ a, a ∈ m' → a ∉ m → H a = none
  keepG : ∀ a o, G a = some o → a ∉ m → G' a = some o
  keepH : ∀ a o, H a = some o → a ∉ m → H' a = some o
  seen : ∀ a o, G' a = some o → (∃ o', G a = some o') ∨ H a = none
  kind : ∀ a, a ∈ m → (∃ o, H a = some o) → ∃ o, H' a = some o

section
variable {K : PySem.W.Frag} {m m' m2 : List Addr} {G H G' H' G2 H2 H0 : Hp} {h h' : Hh} {σ : Sg} {t : L2.St}
theorem Sub.no (s : Sub G H) {a : Addr} (e : H a = none) : G a = none := by
  cases q : G a with
  | none => rfl
  | some o => rw [s a o q] at e; cases e
theorem Sub.refl : Sub G G := fun _ _ e => e
theorem Sub.upd (s : Sub G H) (a : Addr) (o : HO) : Sub (upd G a o) (upd H a o) := fun b u e => by
  by_cases hb : b = a
  · subst hb; rw [upd_same] at e ⊢; exact e
  · rw [upd_ne hb] at e ⊢; exact s b u e
theorem Sub.updR (s : Sub G H) {a : Addr} {o : HO} (n : G a = Option.none) : Sub G (L2.upd H a o) := fun b u e => by
  rw [upd_ne (ne_of_none e n)]; exact s b u e
theorem Rd.sub (s : Sub G H) {a : Addr} {u : HO} (r : Rd G a u) : Rd H a u := by
  rcases r with r | ⟨o, r⟩
  · exact .inl (s _ _ r)
  · exact .inr ⟨o, s _ _ r⟩
theorem SqT.sub (s : Sub G H) {a : Addr} {vs : List V} (q : SqT K G a vs) : SqT K H a vs := q.elim (fun r => .inl (Rd.sub s r)) .inr
theorem SqL.sub (s : Sub G H) {a : Addr} {vs : List V} (q : SqL K G a vs) : SqL K H a vs := q.elim (fun r => .inl (Rd.sub s r)) .inr
theorem FL.sql {a : Addr} {vs : List V} (f : FL K m G a vs) : SqL K G a vs := by
  rcases f with ⟨o, e⟩ | e | ⟨e, _⟩
  · exact .inl (.inr ⟨o, e⟩)
  · exact .inr e
  · exact .inl (.inl e)
theorem Rel.kind (r : Rel K m h G) {a : Addr} (ha : a ∈ m) : (∃ vs, G a = some (.lst vs)) ∨ ∃ ws, G a = some (.dK ws) := by
  obtain ⟨n, hn⟩ := List.getElem?_of_mem ha
  have hl : n < h.length := by
    have := (List.getElem?_eq_some_iff.mp hn).1
    rw [r.len] at this; exact this
  have q := r.obj n h[n] a (List.getElem?_eq_getElem hl) hn
  cases e : h[n] with
  | lst xs => rw [e] at q; obtain ⟨vs, e2, _⟩ := q; exact .inl ⟨vs, e2⟩
  | dct xs => rw [e] at q; obtain ⟨vs, e2, _⟩ := q; exact .inr ⟨vs, e2⟩
theorem Rel.tupNot (r : Rel K m h G) {a : Addr} {vs : List V} (e : Rd G a (.tup vs)) : a ∉ m := fun ha => by
  rcases r.kind ha with ⟨ws, q⟩ | ⟨ws, q⟩ <;> rcases e with e | ⟨o, e⟩ <;> · rw [q] at e; cases e
theorem Rel.frzNot (r : Rel K m h G) {a : Addr} {o : Obj} {u : HO} (e : G a = some (.frz o u)) : a ∉ m := fun ha => by
  rcases r.kind ha with ⟨ws, q⟩ | ⟨ws, q⟩ <;> · rw [q] at e; cases e

theorem Stp.refl (s : Sub G H) : Stp m G H m G H := ⟨s, s, ⟨[], by simp⟩, fun _ h n => absurd h n, fun _ _ e _ => e, fun _ _ e _ => e, fun a o e => .inl ⟨o, e⟩, fun _ _ e => e⟩
theorem Stp.mem (s : Stp m G H m' G' H') {a : Addr} (ha : a ∈ m) : a ∈ m' := by
  obtain ⟨r, e⟩ := s.pre; rw [e]; exact List.mem_append_left _ ha
theorem Stp.get (s : Stp m G H m' G' H') {n : Nat} {a : Addr} (e : m[n]? = some a) : m'[n]? = some a := by
  obtain ⟨r, q⟩ := s.pre
  rw [q, List.getElem?_append_left (List.getElem?_eq_some_iff.mp e).1]; exact e
theorem Stp.out (s : Stp m G H m' G' H') {a : Addr} (n : a ∉ m) {o : HO} (e : H a = some o) : a ∉ m' := fun h => by
  rw [s.new a h n] at e; cases e
theorem Stp.trans (s : Stp m G H m' G' H') (t : Stp m' G' H' m2 G2 H2) : Stp m G H m2 G2 H2 := by
  refine ⟨s.sub, t.sub2, ?_, fun a h1 h2 => ?_, fun a o e n => ?_, fun a o e n => ?_, fun a o e => ?_, fun a ha e => t.kind a (s.mem ha) (s.kind a ha e)⟩
  · obtain ⟨r, e⟩ := s.pre; obtain ⟨r2, e2⟩ := t.pre
    exact ⟨r ++ r2, by rw [e2, e, List.append_assoc]⟩
  · by_cases ha : a ∈ m'
    · exact s.new a ha h2
    · cases q : H a with
      | none => rfl
      | some o => have z := t.new a h1 ha; rw [s.keepH a o q h2] at z; cases z
  · exact t.keepG a o (s.keepG a o e n) (s.out n (s.sub a o e))
  · exact t.keepH a o (s.keepH a o e n) (s.out n e)
  · rcases t.seen a o e with ⟨o', q⟩ | q
    · exact s.seen a o' q
    · cases z : H a with
      | none => exact .inr rfl
      | some u =>
        by_cases ha : a ∈ m
        · obtain ⟨w, hw⟩ := s.kind a ha ⟨u, z⟩
          rw [hw] at q; cases q
        · rw [s.keepH a u z ha] at q; cases q
/-- what has gone by -/
theorem FL.step (r : Rel K m h G) (s : Stp m G H m' G' H') {a : Addr} {vs : List V} (f : FL K m G a vs) : FL K m' G' a vs := by
  rcases f with ⟨o, e⟩ | e | ⟨e, n⟩
  · exact .inl ⟨o, s.keepG a _ e (r.frzNot e)⟩
  · exact .inr (.inl e)
  · exact .inr (.inr ⟨s.keepG a _ e n, s.out n (s.sub a _ e)⟩)
theorem SqT.step (r : Rel K m h G) (s : Stp m G H m' G' H') {a : Addr} {vs : List V} (q : SqT K G a vs) : SqT K G' a vs := by
  rcases q with q | q
  · have n := r.tupNot q
    rcases q with q | ⟨o, q⟩
    · exact .inl (.inl (s.keepG a _ q n))
    · exact .inl (.inr ⟨o, s.keepG a _ q n⟩)
  · exact .inr q
mutual
theorem RD.step (r : Rel K m h G) (s : Stp m G H m' G' H') : ∀ {d : D} {v : V}, RD K m G d v → RD K m' G' d v
  | _, _, .non => .non
  | _, _, .bl b => .bl b
  | _, _, .int i => .int i
  | _, _, .str x => .str x
  | _, _, .tup q l => .tup (SqT.step r s q) (RDs.step r s l)
  | _, _, .fl q n l => .fl (s.keepG _ _ q n) (s.out n (s.sub _ _ q)) (RDs.step r s l)
  | _, _, .sc q l => .sc (FL.step r s q) (RDs.step r s l)
  | _, _, .ref e => .ref (s.get e)
theorem RDs.step (r : Rel K m h G) (s : Stp m G H m' G' H') : ∀ {d : List D} {v : List V}, RDs K m G d v → RDs K m' G' d v
  | _, _, .nil => .nil
  | _, _, .cons q l => .cons (RD.step r s q) (RDs.step r s l)
end
theorem RKs.step (r : Rel K m h G) (s : Stp m G H m' G' H') {d : List (Key × D)} {v : List (Key × V)} (q : RKs K m G d v) : RKs K m' G' d v := by
  induction q with
  | nil => exact .nil
  | cons q _ ih => exact .cons (RD.step r s q) ih
theorem RS.step (r : Rel K m h G) (s : Stp m G H m' G' H') (q : RS K m G σ t) : RS K m' G' σ t :=
  ⟨q.len, fun i d e => let ⟨v, h1, h2⟩ := q.get i d e; ⟨v, h1, RD.step r s h2⟩⟩
theorem Stp.stillHid (s : Stp m G H m' G' H') {a : Addr} {o : HO} (g : G a = none) (e : H a = some o) : G' a = none := by
  cases z : G' a with
  | none => rfl
  | some u =>
    rcases s.seen a u z with ⟨_, q⟩ | q
    · rw [g] at q; cases q
    · rw [e] at q; cases q
theorem RR.step (r : Rel K m h G) (s : Stp m G H m' G' H') {x : RV} {v : V} (q : RR K H0 m G H x v) : RR K H0 m' G' H' x v := by
  cases x with
  | d d => exact RD.step r s q
  | lst xs =>
    obtain ⟨p, vs, e, eh, g, n, f, l⟩ := q
    exact ⟨p, vs, e, s.keepH p _ eh n, s.stillHid g eh, s.out n eh, f, RDs.step r s l⟩
  | dct xs =>
    obtain ⟨p, vs, e, eh, g, n, f, l⟩ := q
    exact ⟨p, vs, e, s.keepH p _ eh n, s.stillHid g eh, s.out n eh, f, RKs.step r s l⟩
theorem RR.early (s : Stp m2 G2 H2 m G H) {x : RV} {v : V} (q : RR K H m' G' H' x v) (p : ∀ a, a ∈ m → a ∈ m') : RR K H2 m' G' H' x v := by
  have key : ∀ a, a ∉ m' → H a = none → H2 a = none := fun a n f => by
    cases z : H2 a with
    | none => rfl
    | some o =>
      have na : a ∉ m2 := fun ha => n (p a (s.mem ha))
      rw [s.keepH a o z na] at f; cases f
  cases x with
  | d d => exact q
  | lst xs => obtain ⟨a, vs, e, eh, g, n, f, l⟩ := q; exact ⟨a, vs, e, eh, g, n, key a n f, l⟩
  | dct xs => obtain ⟨a, vs, e, eh, g, n, f, l⟩ := q; exact ⟨a, vs, e, eh, g, n, key a n f, l⟩
theorem RDs.length : ∀ {d : List D} {v : List V}, RDs K m G d v → d.length = v.length
  | _, _, .nil => rfl
  | _, _, .cons _ l => by rw [List.length_cons, List.length_cons, RDs.length l]
theorem RDs.get : ∀ {d : List D} {v : List V} {i : Nat} {x : D}, RDs K m G d v → d[i]? = some x → ∃ y, v[i]? = some y ∧ RD K m G x y
  | _, _, _, _, .nil, e => by simp at e
  | _, _, 0, _, .cons q _, e => by simp at e; subst e; exact ⟨_, rfl, q⟩
  | _, _, i + 1, _, .cons _ l, e => by
    obtain ⟨y, h1, h2⟩ := RDs.get (i := i) l (by simpa using e)
    exact ⟨y, by simpa using h1, h2⟩
theorem RDs.get2 : ∀ {d : List D} {v : List V} {i : Nat} {y : V}, RDs K m G d v → v[i]? = some y → ∃ x, d[i]? = some x ∧ RD K m G x y
  | _, _, _, _, .nil, e => by simp at e
  | _, _, 0, _, .cons q _, e => by simp at e; subst e; exact ⟨_, rfl, q⟩
  | _, _, i + 1, _, .cons _ l, e => by
    obtain ⟨y, h1, h2⟩ := RDs.get2 (i := i) l (by simpa using e)
    exact ⟨y, by simpa using h1, h2⟩
theorem RDs.app : ∀ {d : List D} {v : List V} {d' : List D} {v' : List V}, RDs K m G d v → RDs K m G d' v' → RDs K m G (d ++ d') (v ++ v')
  | _, _, _, _, .nil, q => q
  | _, _, _, _, .cons p l, q => .cons p (RDs.app l q)
theorem RDs.take : ∀ {d : List D} {v : List V} (n : Nat), RDs K m G d v → RDs K m G (d.take n) (v.take n)
  | _, _, 0, _ => by simp; exact .nil
  | _, _, _ + 1, .nil => .nil
  | _, _, n + 1, .cons q l => by simp; exact .cons q (RDs.take n l)
theorem RDs.drop : ∀ {d : List D} {v : List V} (n : Nat), RDs K m G d v → RDs K m G (d.drop n) (v.drop n)
  | _, _, 0, q => q
  | _, _, _ + 1, .nil => .nil
  | _, _, n + 1, .cons _ l => RDs.drop n l
theorem RDs.set {x : D} {y : V} (q : RD K m G x y) : ∀ {d : List D} {v : List V} (n : Nat), RDs K m G d v → RDs K m G (d.set n x) (v.set n y)
  | _, _, _, .nil => .nil
  | _, _, 0, .cons _ l => .cons q l
  | _, _, n + 1, .cons p l => .cons p (RDs.set q n l)
theorem RDs.rev {d : List D} {v : List V} (q : RDs K m G d v) : RDs K m G d.reverse v.reverse := by
  induction d generalizing v with
  | nil => cases q; exact .nil
  | cons x r ih =>
    cases q with
    | cons p l =>
      rw [List.reverse_cons, List.reverse_cons]
      exact RDs.app (ih l) (.cons p .nil)
theorem RDs.dropLast {d : List D} {v : List V} (q : RDs K m G d v) : RDs K m G d.dropLast v.dropLast := by
  rw [List.dropLast_eq_take, List.dropLast_eq_take, ← q.length]
  exact q.take _
theorem RDs.rep {d : List D} {v : List V} (q : RDs K m G d v) : ∀ n : Nat, RDs K m G (List.replicate n d).flatten (List.replicate n v).flatten
  | 0 => .nil
  | n + 1 => by
    rw [List.replicate_succ, List.replicate_succ, List.flatten_cons, List.flatten_cons]
    exact q.app (RDs.rep q n)
theorem RKs.length {d : List (Key × D)} {v : List (Key × V)} (q : RKs K m G d v) : d.length = v.length := by
  induction q with
  | nil => rfl
  | cons _ _ ih => rw [List.length_cons, List.length_cons, ih]
theorem RKs.get {d : List (Key × D)} {v : List (Key × V)} (q : RKs K m G d v) {k : Key} {x : D} (e : getK d k = some x) : ∃ y, valV v k = some y ∧ RD K m G x y := by
  induction q with
  | nil => cases e
  | @cons k' d' v' ds vs p l ih =>
    by_cases hk : k' = k
    · have e1 : getK ((k', d') :: ds) k = some d' := by simp [getK, List.find?_cons, hk]
      rw [e1] at e; cases e
      exact ⟨v', valV_pos hk, p⟩
    · have e1 : getK ((k', d') :: ds) k = getK ds k := by simp [getK, List.find?_cons, hk]
      rw [e1] at e
      obtain ⟨y, h1, h2⟩ := ih e
      exact ⟨y, by rw [valV_neg hk]; exact h1, h2⟩
theorem RKs.any {d : List (Key × D)} {v : List (Key × V)} (q : RKs K m G d v) (k : Key) : (d.any fun kv => decide (kv.1 = k)) = (v.any fun kv => decide (kv.1 = k)) := by
  induction q with
  | nil => rfl
  | cons _ _ ih => rw [List.any_cons, List.any_cons, ih]
theorem RKs.app {d d' : List (Key × D)} {v v' : List (Key × V)} (q : RKs K m G d v) (p : RKs K m G d' v') : RKs K m G (d ++ d') (v ++ v') := by
  induction q with
  | nil => exact p
  | cons r _ ih => exact .cons r ih
theorem RKs.mapPut {k : Key} {x : D} {y : V} (p : RD K m G x y) {d : List (Key × D)} {v : List (Key × V)} (q : RKs K m G d v) :
    RKs K m G (d.map (fun kv => if kv.1 = k then (kv.1, x) else kv)) (v.map (fun kv => if kv.1 = k then (kv.1, y) else kv)) := by
  induction q with
  | nil => exact .nil
  | @cons k' d' v' ds vs r _ ih =>
    rw [List.map_cons, List.map_cons]
    by_cases hk : k' = k
    · rw [if_pos hk, if_pos hk]; exact .cons p ih
    · rw [if_neg hk, if_neg hk]; exact .cons r ih
theorem RKs.put {d : List (Key × D)} {v : List (Key × V)} (q : RKs K m G d v) {k : Key} {x : D} {y : V} (p : RD K m G x y) : RKs K m G (setK d k x) (putK v k y) := by
  unfold setK putK
  rw [q.any k]
  split
  · exact q.mapPut p
  · exact q.app (.cons p .nil)
end
end Cw
end

section
set_option Elab.async false
set_option linter.all false
set_option maxRecDepth 100000
set_option maxHeartbeats 4000000
/-! Cw3: when a term of I is the given expression; the best reading of an expression; results that are good. -/
namespace Cw
open PySem PySem.Spec PyProof.Rows L2

/-! ### the check -/
structure Ck where
  free : List Str
  cons : List (Str × D)
  fns : List (Nat × Str × List Str)
  /-- classes of exceptions; those that are raised, with their fields; which is a kind of which -/
  cls : List (Nat × Str) := []
  mks : List (Nat × Str × List Str) := []
  sub : List (Nat × Nat) := []

mutual
def D.beq : D → D → Bool
  | .non, .non => true
  | .bl a, .bl b => a == b
  | .int a, .int b => decide (a = b)
  | .str a, .str b => decide (a = b)
  | .tup a, .tup b => D.beqs a b
  | .fl a, .fl b => D.beqs a b
  | .sc a, .sc b => D.beqs a b
  | .ref a, .ref b => decide (a = b)
  | _, _ => false
def D.beqs : List D → List D → Bool
  | [], [] => true
  | x :: xs, y :: ys => D.beq x y && D.beqs xs ys
  | _, _ => false
end
theorem ba {a b : Bool} (h : (a && b) = true) : a = true ∧ b = true := Bool.and_eq_true_iff.mp h
mutual
theorem D.beq_eq : ∀ {a b : D}, D.beq a b = true → a = b
  | .non, b, h => by cases b <;> first | rfl | cases h
  | .bl a, b, h => by
    cases b with
    | bl b => have e : (a == b) = true := h; rw [eq_of_beq e]
    | _ => cases h
  | .int a, b, h => by
    cases b with
    | int b => have e : a = b := of_decide_eq_true h; rw [e]
    | _ => cases h
  | .str a, b, h => by
    cases b with
    | str b => have e : a = b := of_decide_eq_true h; rw [e]
    | _ => cases h
  | .tup a, b, h => by
    cases b with
    | tup b => rw [D.beqs_eq (show D.beqs a b = true from h)]
    | _ => cases h
  | .fl a, b, h => by
    cases b with
    | fl b => rw [D.beqs_eq (show D.beqs a b = true from h)]
    | _ => cases h
  | .sc a, b, h => by
    cases b with
    | sc b => rw [D.beqs_eq (show D.beqs a b = true from h)]
    | _ => cases h
  | .ref a, b, h => by
    cases b with
    | ref b => have e : a = b := of_decide_eq_true h; rw [e]
    | _ => cases h
theorem D.beqs_eq : ∀ {a b : List D}, D.beqs a b = true → a = b
  | [], b, h => by cases b <;> first | rfl | cases h
  | x :: xs, b, h => by
    cases b with
    | nil => cases h
    | cons y ys =>
      obtain ⟨h1, h2⟩ := ba (show (D.beq x y && D.beqs xs ys) = true from h)
      rw [D.beq_eq h1, D.beqs_eq h2]
end

def opOf : Bop → Operator
  | .add => .Add | .sub => .Sub | .mul => .Mult | .fdiv => .FloorDiv | .mod => .Mod | .pow => .Pow | .band => .BitAnd | .shl => .LShift
def cOf : Cop → CmpOp
  | .lt => .Lt | .le => .LtE | .gt => .Gt | .ge => .GtE | .eq => .Eq | .ne => .NotEq | .isin => .In | .notin => .NotIn | .is => .Is | .isnot => .IsNot
def biName : Bi → Str
  | .len => "len" | .tuple => "tuple" | .list => "list" | .sorted => "sorted" | .sum => "sum" | .all => "all" | .any => "any" | .abs => "abs"
  | .max => "max" | .min => "min" | .int => "int" | .str => "str" | .repr => "repr"
def mtName : Mt → Str
  | .append => "append" | .extend => "extend" | .pop => "pop" | .get => "get" | .items => "items" | .index => "index" | .count => "count" | .join => "join" | .split => "split"
def tyName : Ty → Str
  | .int => "int" | .bool => "bool" | .str => "str" | .tuple => "tuple" | .list => "list" | .dict => "dict"

def vis (sc : Scope) (x : Str) : Bool := match sc.names.lookup x with
  | some .local => true
  | some .cell => true
  | some .free => true
  | _ => false
def loc (sc : Scope) (x : Str) : Bool := match sc.names.lookup x with
  | some .local => true
  | some .cell => true
  | _ => false
def gl (sc : Scope) (x : Str) : Bool := match sc.names.lookup x with
  | some .globalImplicit => true
  | _ => false
def okName (x : Str) : Bool := !(x == ("__debug__" : Str)) && !(x == ("__classdict__" : Str)) && !(decide (x = ("__name__" : Str)))
def Ck.isFree (ck : Ck) (x : Str) : Bool := ck.free.any fun y => decide (y = x)
def Ck.isCon (ck : Ck) (x : Str) (d : D) : Bool := ck.cons.any fun p => decide (p.1 = x) && D.beq p.2 d
/-- the def f is named x; the keywords name its last parameters, in their order -/
def Ck.isFn (ck : Ck) (f : Nat) (x : Str) (n : Nat) (ks : List Str) : Bool := ck.fns.any fun p => decide (p.1 = f) && decide (p.2.1 = x) && decide (p.2.2.drop n = ks) && decide (n + ks.length = p.2.2.length)
def plainIx : Expr → Bool
  | .Slice .. => false
  | _ => true
def bltn (ck : Ck) (sc : Scope) (x : Str) : Bool := gl sc x && ck.isFree x
def isWith (e : Expr) : Bool := match e with
  | .Starred .. => false
  | .Slice .. => false
  | .Set .. => false
  | _ => true
def plainTest : Expr → Bool
  | .UnaryOp .Not _ _ => false
  | .BoolOp .. => false
  | .IfExp .. => false
  | .Compare .. => false
  | _ => true
def mtIs : Mt → Bool
  | .append => true
  | .extend => true
  | .pop => true
  | _ => false
def baseOk : Expr → Bool
  | .Call _ [] [] _ => false
  | _ => true
def isiT (ck : Ck) (sc : Scope) (ts : List Ty) (t : Expr) : Bool := match ts, t with
  | [t], .Name z _ => decide (z = tyName t) && bltn ck sc z
  | _, _ => false
/-- a name, a tuple of names -/
def mTs (N : List Str) (sc : Scope) : List I → List Expr → Bool
  | [], [] => true
  | .v i :: ts, .Name x _ :: xs => decide (N[i]? = some x) && loc sc x && mTs N sc ts xs
  | _, _ => false
def mT (N : List Str) (sc : Scope) (t : I) (x : Expr) : Bool := match t, x with
  | .v i, .Name x _ => decide (N[i]? = some x) && loc sc x
  | .tup ts, .Tuple xs _ _ => mTs N sc ts xs
  | _, _ => false
def slots : I → List Nat
  | .v i => [i]
  | .tup ts => ts.filterMap fun t => match t with
    | .v i => some i
    | _ => none
  | _ => []
def slotsL (ts : List I) : List Nat := slots (.tup ts)
def isTupT : I → Bool
  | .tup _ => true
  | _ => false
def isPairIt : I → Bool
  | .enum _ => true
  | .zip _ _ => true
  | _ => false

section
variable (ck : Ck) (N : List Str)
mutual
def mE : Scope → I → Expr → Bool
  | sc, .v i, .Name x _ => decide (N[i]? = some x) && vis sc x && okName x
  | _, .c d, .Constant c _ _ => (match d, c with
    | .int i, .int j => decide (i = j)
    | .bl i, .bool j => i == j
    | .str i, .str j => decide (i = j)
    | .non, .none => true
    | _, _ => false)
  | sc, .g x d, .Name y _ => decide (y = x) && gl sc x && okName x && ck.isCon x d
  | sc, .tup es, .Tuple xs _ _ => mEs sc es xs && decide (xs.length ≤ 1000)
  | sc, .lst es, .List xs _ => mEs sc es xs && decide (xs.length ≤ 1000)
  | sc, .dct es, .Dict ks vs _ => decide (ks.length = vs.length) && !ks.isEmpty && decide (ks.length ≤ 15) && mDs sc es ks vs
  | sc, .lrg t es, .Call (.Name y _) [.Call (.Name z _) xs [] _] [] _ => decide (y = if t then ("tuple" : Str) else ("list" : Str)) && bltn ck sc y && decide (z = ("range" : Str)) && bltn ck sc z && !xs.isEmpty && (decide (xs.length ≤ 2) || (!t && decide (xs.length = 3))) && mEs sc es xs
  | sc, .rcmp n a b, .Compare (.Call (.Name y _) [x] [] _) [p] [.Call (.Name z _) [w] [] _] _ => decide (y = ("repr" : Str)) && decide (z = ("repr" : Str)) && bltn ck sc y && decide (p = if n then CmpOp.NotEq else CmpOp.Eq) && mE sc a x && mE sc b w
  | sc, .bin o a b, .BinOp x p y _ => decide (p = opOf o) && mE sc a x && mE sc b y
  | sc, .neg a, .UnaryOp .USub x _ => mE sc a x
  | sc, .nt a, .UnaryOp .Not x _ => mE sc a x
  | sc, .and es, .BoolOp .And xs _ => mEs sc es xs
  | sc, .or es, .BoolOp .Or xs _ => mEs sc es xs
  | sc, .cmp o a b, .Compare x [p] [y] _ => decide (p = cOf o) && !(behindInMarks p y) && mE sc a x && mE sc b y
  | sc, .chn o p a b c, .Compare x [o', p'] [y, z] _ => decide (o' = cOf o) && decide (p' = cOf p) && !(lastMarks [o', p'] [y, z]) && mE sc a x && mE sc b y && mE sc c z
  | sc, .chn3 o p q a b c d, .Compare x [o', p', q'] [y, z, w] _ => decide (o' = cOf o) && decide (p' = cOf p) && decide (q' = cOf q) && !(lastMarks [o', p', q'] [y, z, w]) && mE sc a x && mE sc b y && mE sc c z && mE sc d w
  | sc, .ife c a b, .IfExp z x y _ => mE sc c z && mE sc a x && mE sc b y
  | sc, .ix a i, .Subscript x y _ => mE sc a x && mE sc i y
  | sc, .sl a lo hi, .Subscript x (.Slice l r none _) _ => mE sc a x && (match l with
      | none => lo.isNo
      | some l => mE sc lo l) && (match r with
      | none => hi.isNo
      | some r => mE sc hi r)
  | sc, .rev a, .Subscript x (.Slice none none (some (.UnaryOp .USub (.Constant (.int j) _ _) _)) _) _ => decide (j = 1) && mE sc a x
  | sc, .call _ f x es ks zs, .Call (.Name y _) xs kws _ => decide (y = x) && gl sc x && okName x && mEs sc es xs && mKs sc ks zs kws && ck.isFn f x es.length ks
  | sc, .bi b es, .Call (.Name y _) xs [] _ => decide (y = biName b) && bltn ck sc y && !xs.isEmpty && mEs sc es xs
  | sc, .isi a ts, .Call (.Name y _) [x, t] [] _ => decide (y = ("isinstance" : Str)) && bltn ck sc y && mE sc a x && isiT ck sc ts t
  | sc, .mth m o es, .Call (.Attribute x nm apos) xs [] cpos => decide (nm = mtName m) && decide ((apos.endLine == cpos.line) = true) && baseOk x && mE sc o x && mEs sc es xs && decide (xs.length < 20) && mtIs m
  | sc, .mut e, x => plainTest x && mE sc e x
  | sc, .lc e t i c w, .ListComp x [⟨y, z, ifs, a⟩] scope _ => decide (a = 0) && blkC N sc scope w && mI sc i z && mT N scope t y && (!isPairIt i || isTupT t) && mE (relS scope sc) e x && (match ifs with
      | [] => (match c with
        | .c (.bl true) => true
        | _ => false)
      | [q] => mE (relS scope sc) c q
      | _ => false)
  | sc, .lc2 e t i t2 es2 w w2, .ListComp x [⟨y, z, [], a⟩, ⟨y2, .Call (.Name f _) xs [] _, [], a2⟩] scope _ => decide (a = 0) && decide (a2 = 0) && blkC N sc scope w && mI sc i z && mT N scope t y && (!isPairIt i || isTupT t) && decide (f = ("range" : Str)) && bltn ck (relS scope sc) f && !xs.isEmpty && decide (xs.length ≤ 3) && mEs (relS scope sc) es2 xs && mT N scope t2 y2 &&
      (w2.all fun p => (w.map (·.2)).contains p.2) && ((slots t2).all fun j => (w2.map (·.2)).contains j) && mE (relS scope sc) e x
  | _, _, _ => false
def mEs : Scope → List I → List Expr → Bool
  | _, [], [] => true
  | sc, e :: es, x :: xs => mE sc e x && mEs sc es xs
  | _, _, _ => false
def mDs : Scope → List I → List (Option Expr) → List Expr → Bool
  | _, [], [], [] => true
  | sc, k :: e :: es, some x :: ks, y :: ys => mE sc k x && mE sc e y && mDs sc es ks ys
  | _, _, _, _ => false
def mKs : Scope → List Str → List I → List Keyword → Bool
  | _, [], [], [] => true
  | sc, k :: ks, e :: es, ⟨nm, x, _⟩ :: xs => decide (nm = some k) && mE sc e x && mKs sc ks es xs
  | _, _, _, _ => false
def mI : Scope → I → Expr → Bool
  | sc, .it e, x => mE sc e x
  | sc, .rng es, .Call (.Name y _) xs [] _ => decide (y = ("range" : Str)) && bltn ck sc y && !xs.isEmpty && decide (xs.length ≤ 3) && mEs sc es xs
  | sc, .enum e, .Call (.Name y _) [x] [] _ => decide (y = ("enumerate" : Str)) && bltn ck sc y && mE sc e x
  | sc, .zip e f, .Call (.Name y _) [x, z] [] _ => decide (y = ("zip" : Str)) && bltn ck sc y && mE sc e x && mE sc f z
  | _, _, _ => false
end
end
end Cw
end

section
set_option Elab.async false
set_option linter.all false
set_option maxRecDepth 100000
set_option maxHeartbeats 4000000
/-! Cw4: the best reading of a piece of syntax; what is good; operators by values. -/
namespace Cw
open PySem PySem.Spec PyProof.Rows L2

/-! ### the best readings -/
section
variable (X : Cx)
def bE (e : Expr) : TE := fun σ H Q => ∃ t, PE X e t ∧ t σ H Q
def bT (e : Expr) : TT := fun σ H Q => ∃ t, PT X e t ∧ t σ H Q
def bW (e : Expr) : TT := fun σ H Q => ∃ t, PW X e t ∧ t σ H Q
def bA (es : List Expr) : TA := fun σ H Q => ∃ t, PA X es t ∧ t σ H Q
def bK (es : List Keyword) : TA := fun σ H Q => ∃ t, PK X es t ∧ t σ H Q
def bI (tg e : Expr) : TI := fun σ H Q => ∃ t, PI X tg e t ∧ t σ H Q
def bS (s : Stmt) : TS := fun D σ H => ∃ t, PS X s t ∧ t D σ H
def bSs (s : List Stmt) : TS := fun D σ H => ∃ t, PSs X s t ∧ t D σ H
end
section
variable {X : Cx}
theorem peB {e : Expr} : PE X e (bE X e) := ⟨fun pins s σ H Q I ⟨t, h, q⟩ => h.run pins s σ H Q I q⟩
theorem ptB {e : Expr} : PT X e (bT X e) := ⟨fun pins s σ H Q I ⟨t, h, q⟩ => h.run pins s σ H Q I q⟩
theorem pwB {e : Expr} : PW X e (bW X e) := ⟨fun wh pins s σ H Q I ⟨t, h, q⟩ => h.run wh pins s σ H Q I q⟩
theorem paB {e : List Expr} : PA X e (bA X e) := ⟨fun pos pins s σ H Q I ⟨t, h, q⟩ => h.run pos pins s σ H Q I q⟩
theorem pkB {e : List Keyword} : PK X e (bK X e) := ⟨fun pos pins s σ H Q I ⟨t, h, q⟩ => h.run pos pins s σ H Q I q⟩
theorem piB {tg e : Expr} : PI X tg e (bI X tg e) := ⟨fun pins s σ H Q I ⟨t, h, q⟩ => h.run pins s σ H Q I q⟩
theorem psB {s : Stmt} : PS X s (bS X s) := ⟨fun pins sh σ H D I ⟨t, h, q⟩ => h.run pins sh σ H D I q⟩
theorem pssB {s : List Stmt} : PSs X s (bSs X s) := ⟨fun pins sh σ H D I ⟨t, h, q⟩ => h.run pins sh σ H D I q⟩
end

/-! ### what is good -/
structure Cs where
  cls : Nat → Addr
  fl : Nat → List Str
/-- an exception as it lies in the heap -/
structure XAt (c : Cs) (K : PySem.W.Frag) (m : List Addr) (G : Hp) (x : Ex) (C : Value) (d : Option Addr) : Prop where
  cl : C = .ref (c.cls x.c)
  len : x.as.length = (c.fl x.c).length
  fs : (x.as = [] ∧ d = none) ∨ ∃ dx fs, d = some dx ∧ G dx = some (.xd fs) ∧ ∀ (i : Nat) (f : Str) (y : D), (c.fl x.c)[i]? = some f → x.as[i]? = some y → ∃ v, fs.lookup f = some v ∧ RD K m G y v
abbrev WE3 := Value → Option Addr → Hp → Prop
def Good {α : Type} (c : Cs) (K : PySem.W.Frag) (m : List Addr) (G H : Hp) (E : WE3) (r : R α) (P : α → List Addr → Hp → Hp → Prop) : Prop := match r with
  | .ok a h' => ∀ m' G' H', Stp m G H m' G' H' → Rel K m' h' G' → P a m' G' H'
  | .exc x h' => ∀ m' G' H' C d, Stp m G H m' G' H' → Rel K m' h' G' → XAt c K m' G' x C d → E C d H'
  | .stuck => False
section
variable {c : Cs} {K : PySem.W.Frag} {m m' : List Addr} {G H G' H' H0 : Hp} {E : WE3} {h : Hh} {α β : Type}
theorem Good.later {r : R α} {P : α → List Addr → Hp → Hp → Prop} (s : Stp m G H m' G' H') (g : Good c K m G H E r P) : Good c K m' G' H' E r P := by
  cases r with
  | ok a h1 => exact fun m2 G2 H2 s2 => g m2 G2 H2 (s.trans s2)
  | exc x h1 => exact fun m2 G2 H2 C d s2 => g m2 G2 H2 C d (s.trans s2)
  | stuck => exact g
theorem Good.mono {r : R α} {P P' : α → List Addr → Hp → Hp → Prop} (g : Good c K m G H E r P) (i : ∀ a m' G' H', Stp m G H m' G' H' → P a m' G' H' → P' a m' G' H') : Good c K m G H E r P' := by
  cases r with
  | ok a h1 => exact fun m2 G2 H2 s2 r2 => i _ _ _ _ s2 (g m2 G2 H2 s2 r2)
  | exc x h1 => exact g
  | stuck => exact g
theorem Good.bindL {m1 : List Addr} {G1 H1 : Hp} {r : R α} {f : α → Hh → R β} {P : β → List Addr → Hp → Hp → Prop} (s : Stp m G H m1 G1 H1) (g : Good c K m G H E (r.bind f) P) :
    Good c K m1 G1 H1 E r fun a m2 G2 H2 => ∃ h2, r = .ok a h2 ∧ Rel K m2 h2 G2 ∧ Stp m G H m2 G2 H2 ∧ Good c K m G H E (f a h2) P := by
  cases r with
  | ok a h1 => exact fun m2 G2 H2 s2 r2 => ⟨h1, rfl, r2, s.trans s2, g⟩
  | exc x h1 => exact fun m2 G2 H2 C d s2 => g m2 G2 H2 C d (s.trans s2)
  | stuck => exact g
theorem Good.bind {r : R α} {f : α → Hh → R β} {P : β → List Addr → Hp → Hp → Prop} (su : Sub G H) (g : Good c K m G H E (r.bind f) P) :
    Good c K m G H E r fun a m2 G2 H2 => ∃ h2, r = .ok a h2 ∧ Rel K m2 h2 G2 ∧ Stp m G H m2 G2 H2 ∧ Good c K m G H E (f a h2) P := Good.bindL (.refl su) g
theorem Good.ofO {o : Option α} {P : α → List Addr → Hp → Hp → Prop} (g : Good c K m G H E (R.ofO o h) P) : ∃ a, o = some a ∧ ∀ m' G' H', Stp m G H m' G' H' → Rel K m' h G' → P a m' G' H' := by
  cases o with
  | some a => exact ⟨a, rfl, g⟩
  | none => exact g.elim

/-! ### a new object -/
theorem Stp.new1 (s : Sub G H) (r : Rel K m h G) {p : Addr} (n : H p = none) (o : HO) : Stp m G H m (upd G p o) (upd H p o) := by
  have gp : G p = none := s.no n
  have np : p ∉ m := fun hp => by rcases r.kind hp with ⟨_, e⟩ | ⟨_, e⟩ <;> · rw [gp] at e; cases e
  refine ⟨s, s.upd p o, ⟨[], by simp⟩, fun a h1 h2 => absurd h1 h2, fun a u e _ => ?_, fun a u e _ => ?_, fun a u e => ?_, fun a ha ⟨u, e⟩ => ?_⟩
  · rw [upd_ne (ne_of_none e gp)]; exact e
  · rw [upd_ne (ne_of_none e n)]; exact e
  · by_cases ha : a = p
    · subst ha; exact .inr n
    · rw [upd_ne ha] at e; exact .inl ⟨u, e⟩
  · exact ⟨u, by rw [upd_ne (ne_of_none e n)]; exact e⟩
/-- a new object that is hidden -/
theorem Stp.newH (s : Sub G H) (r : Rel K m h G) {p : Addr} (n : H p = none) (o : HO) : Stp m G H m G (upd H p o) := by
  have gp : G p = none := s.no n
  refine ⟨s, s.updR gp, ⟨[], by simp⟩, fun a h1 h2 => absurd h1 h2, fun a u e _ => e, fun a u e _ => ?_, fun a u e => .inl ⟨u, e⟩, fun a ha ⟨u, e⟩ => ?_⟩
  · rw [upd_ne (ne_of_none e n)]; exact e
  · exact ⟨u, by rw [upd_ne (ne_of_none e n)]; exact e⟩
theorem Rel.step (r : Rel K m h G) (s : Stp m G H m G' H') (k : ∀ a o, a ∈ m → G a = some o → G' a = some o) : Rel K m h G' := by
  refine ⟨r.len, r.nd, fun n o a h1 h2 => ?_⟩
  have q := r.obj n o a h1 h2
  have ha := List.mem_of_getElem? h2
  cases o with
  | lst xs => obtain ⟨vs, e, l⟩ := q; exact ⟨vs, k a _ ha e, l.step r s⟩
  | dct xs => obtain ⟨vs, e, l⟩ := q; exact ⟨vs, k a _ ha e, l.step r s⟩
theorem Rel.new1 (s : Sub G H) (r : Rel K m h G) {p : Addr} (n : H p = none) (o : HO) : Rel K m h (upd G p o) :=
  r.step (Stp.new1 s r n o) fun a u _ e => by rw [upd_ne (ne_of_none e (s.no n))]; exact e
theorem Rel.outNew (s : Sub G H) (r : Rel K m h G) {p : Addr} (n : H p = none) : p ∉ m := fun hp => by
  rcases r.kind hp with ⟨_, e⟩ | ⟨_, e⟩ <;> · rw [s.no n] at e; cases e

/-! ### values -/
theorem RD.int_of {i : Int} {v : V} (r : RD K m G (.int i) v) : v = .int i := by cases r; rfl
theorem RD.bl_of {i : Bool} {v : V} (r : RD K m G (.bl i) v) : v = .bl i := by cases r; rfl
theorem RD.str_of {i : Str} {v : V} (r : RD K m G (.str i) v) : v = .str i := by cases r; rfl
theorem RD.non_of {v : V} (r : RD K m G .non v) : v = .non := by cases r; rfl
theorem RD.tup_of {xs : List D} {v : V} (r : RD K m G (.tup xs) v) : ∃ a vs, v = .ref a ∧ SqT K G a vs ∧ RDs K m G xs vs := by cases r with | tup q l => exact ⟨_, _, rfl, q, l⟩
theorem RD.fl_of {xs : List D} {v : V} (r : RD K m G (.fl xs) v) : ∃ a vs, v = .ref a ∧ G a = some (.lst vs) ∧ a ∉ m ∧ RDs K m G xs vs := by cases r with | fl q n l => exact ⟨_, _, rfl, q, n, l⟩
theorem RD.sc_of {xs : List D} {v : V} (r : RD K m G (.sc xs) v) : ∃ a vs, v = .ref a ∧ FL K m G a vs ∧ RDs K m G xs vs := by cases r with | sc q l => exact ⟨_, _, rfl, q, l⟩
theorem RD.ref_of {n : Nat} {v : V} (r : RD K m G (.ref n) v) : ∃ a, v = .ref a ∧ m[n]? = some a := by cases r with | ref q => exact ⟨_, rfl, q⟩
theorem Rel.lst (r : Rel K m h G) {n : Nat} {xs : List D} {a : Addr} (e : h[n]? = some (.lst xs)) (q : m[n]? = some a) : ∃ vs, G a = some (.lst vs) ∧ RDs K m G xs vs := r.obj n _ a e q
theorem Rel.dct (r : Rel K m h G) {n : Nat} {xs : List (Key × D)} {a : Addr} (e : h[n]? = some (.dct xs)) (q : m[n]? = some a) : ∃ vs, G a = some (.dK vs) ∧ RKs K m G xs vs := r.obj n _ a e q
/-- a list of data -/
theorem RR.lis (s : Sub G H) (r : Rel K m h G) {x : RV} {v : V} {xs : List D} (q : RR K H0 m G H x v) (e : x.lis h = some xs) : ∃ a vs, v = .ref a ∧ H a = some (.lst vs) ∧ RDs K m G xs vs := by
  cases x with
  | d d =>
    cases d with
    | fl ys => cases e; obtain ⟨a, vs, h1, h2, _, h4⟩ := RD.fl_of q; exact ⟨a, vs, h1, s _ _ h2, h4⟩
    | ref n =>
      obtain ⟨a, h1, h2⟩ := RD.ref_of q
      have e' : (match h[n]? with | some (.lst xs) => some xs | _ => none) = some xs := e
      cases z : h[n]? with
      | none => rw [z] at e'; cases e'
      | some o =>
        rw [z] at e'
        cases o with
        | lst ys => cases e'; obtain ⟨vs, h3, h4⟩ := r.lst z h2; exact ⟨a, vs, h1, s _ _ h3, h4⟩
        | dct _ => cases e'
    | _ => cases e
  | lst ys => cases e; obtain ⟨a, vs, h1, h2, _, _, _, h4⟩ := q; exact ⟨a, vs, h1, h2, h4⟩
  | dct _ => cases e
/-- a list or a tuple of data -/
theorem RR.seq (s : Sub G H) (r : Rel K m h G) {x : RV} {v : V} {xs : List D} (q : RR K H0 m G H x v) (e : x.seq h = some xs) : ∃ a vs, v = .ref a ∧ (SqL K H a vs ∨ SqT K G a vs) ∧ RDs K m G xs vs := by
  cases x with
  | d d =>
    cases d with
    | tup ys => cases e; obtain ⟨a, vs, h1, h2, h4⟩ := RD.tup_of q; exact ⟨a, vs, h1, .inr h2, h4⟩
    | fl ys => cases e; obtain ⟨a, vs, h1, h2, _, h4⟩ := RD.fl_of q; exact ⟨a, vs, h1, .inl (SqL.of (s _ _ h2)), h4⟩
    | sc ys => cases e; obtain ⟨a, vs, h1, h2, h4⟩ := RD.sc_of q; exact ⟨a, vs, h1, .inl (SqL.sub s h2.sql), h4⟩
    | ref n =>
      have e' : (match h[n]? with | some (.lst xs) => some xs | _ => none) = some xs := e
      obtain ⟨a, vs, h1, h2, h3⟩ := RR.lis (x := .d (.ref n)) s r q e'
      exact ⟨a, vs, h1, .inl (SqL.of h2), h3⟩
    | _ => cases e
  | lst ys => cases e; obtain ⟨a, vs, h1, h2, _, _, _, h4⟩ := q; exact ⟨a, vs, h1, .inl (SqL.of h2), h4⟩
  | dct _ => cases e
/-- a new list is shown -/
theorem Stp.show1 {m1 : List Addr} {G1 H1 : Hp} (s : Stp m G H m1 G1 H1) {p : Addr} {o : HO} (e : H1 p = some o) (n : H p = none) (g : G1 p = none) : Stp m G H m1 (upd G1 p o) H1 := by
  refine ⟨s.sub, fun a u q => ?_, s.pre, s.new, fun a u q na => ?_, s.keepH, fun a u q => ?_, s.kind⟩
  · by_cases ha : a = p
    · subst ha; rw [upd_same] at q; cases q; exact e
    · rw [upd_ne ha] at q; exact s.sub2 a u q
  · have : a ≠ p := fun z => by subst z; rw [s.sub a u q] at n; cases n
    rw [upd_ne this]; exact s.keepG a u q na
  · by_cases ha : a = p
    · subst ha; exact .inr n
    · rw [upd_ne ha] at q; exact s.seen a u q
mutual
theorem RD.more {m' : List Addr} {p : Addr} {o : HO} (g : G p = none) (hm : ∃ r, m' = m ++ r) (hp : ∀ a, a ∈ m' → a ∉ m → a = p) : ∀ {d : D} {v : V}, RD K m G d v → RD K m' (upd G p o) d v
  | _, _, .non => .non
  | _, _, .bl b => .bl b
  | _, _, .int i => .int i
  | _, _, .str x => .str x
  | _, _, .tup q l => by
    refine .tup ?_ (RDs.more g hm hp l)
    rcases q with (e | ⟨u, e⟩) | q
    · exact .inl (.inl (by rw [upd_ne (ne_of_none e g)]; exact e))
    · exact .inl (.inr ⟨u, by rw [upd_ne (ne_of_none e g)]; exact e⟩)
    · exact .inr q
  | _, _, .fl q n l => .fl (by rw [upd_ne (ne_of_none q g)]; exact q) (fun h => by have := hp _ h n; subst this; rw [g] at q; cases q) (RDs.more g hm hp l)
  | _, _, .sc q l => by
    refine .sc ?_ (RDs.more g hm hp l)
    rcases q with ⟨u, e⟩ | q | ⟨e, n⟩
    · exact .inl ⟨u, by rw [upd_ne (ne_of_none e g)]; exact e⟩
    · exact .inr (.inl q)
    · exact .inr (.inr ⟨by rw [upd_ne (ne_of_none e g)]; exact e, fun h => by have := hp _ h n; subst this; rw [g] at e; cases e⟩)
  | _, _, .ref e => .ref (by
    obtain ⟨r, q⟩ := hm
    rw [q, List.getElem?_append_left (List.getElem?_eq_some_iff.mp e).1]; exact e)
theorem RDs.more {m' : List Addr} {p : Addr} {o : HO} (g : G p = none) (hm : ∃ r, m' = m ++ r) (hp : ∀ a, a ∈ m' → a ∉ m → a = p) : ∀ {d : List D} {v : List V}, RDs K m G d v → RDs K m' (upd G p o) d v
  | _, _, .nil => .nil
  | _, _, .cons q l => .cons (RD.more g hm hp q) (RDs.more g hm hp l)
end
theorem RKs.more {m' : List Addr} {p : Addr} {o : HO} (g : G p = none) (hm : ∃ r, m' = m ++ r) (hp : ∀ a, a ∈ m' → a ∉ m → a = p) {d : List (Key × D)} {v : List (Key × V)} (q : RKs K m G d v) : RKs K m' (upd G p o) d v := by
  induction q with
  | nil => exact .nil
  | cons q _ ih => exact .cons (RD.more g hm hp q) ih
theorem more_refl : ∃ r, m = m ++ r := ⟨[], by simp⟩
theorem Rel.show1 (r : Rel K m h G) {p : Addr} (o : HO) (g : G p = none) : Rel K m h (upd G p o) := by
  refine ⟨r.len, r.nd, fun n u a h1 h2 => ?_⟩
  have q := r.obj n u a h1 h2
  cases u with
  | lst xs => obtain ⟨vs, e, l⟩ := q; exact ⟨vs, by rw [upd_ne (ne_of_none e g)]; exact e, l.more g more_refl fun a h n => absurd h n⟩
  | dct xs => obtain ⟨vs, e, l⟩ := q; exact ⟨vs, by rw [upd_ne (ne_of_none e g)]; exact e, l.more g more_refl fun a h n => absurd h n⟩
/-- as data: a new list is shown -/
theorem RR.toD {m1 : List Addr} {G1 H1 : Hp} (s : Stp m G H m1 G1 H1) (r : Rel K m1 h G1) {x : RV} {v : V} {d : D} (q : RR K H m1 G1 H1 x v) (e : x.toD = some d) :
    ∃ G2, Stp m G H m1 G2 H1 ∧ Rel K m1 h G2 ∧ RD K m1 G2 d v ∧ (∀ {d : D} {v : V}, RD K m1 G1 d v → RD K m1 G2 d v) := by
  cases x with
  | d _ => cases e; exact ⟨G1, s, r, q, fun q => q⟩
  | lst xs =>
    cases e
    obtain ⟨p, vs, h1, h2, h3, h4, h5, l⟩ := q
    subst h1
    exact ⟨_, s.show1 h2 h5 h3, r.show1 _ h3, .fl upd_same h4 (l.more h3 more_refl fun a h n => absurd h n), fun q => q.more h3 more_refl fun a h n => absurd h n⟩
  | dct _ => cases e
mutual
theorem RD.dp : ∀ {d : D} {v : V}, RD K m G d v → d.pure = true → Dp K G v d.p
  | _, _, .non, _ => .non
  | _, _, .bl b, _ => .bl b
  | _, _, .int i, _ => .int i
  | _, _, .str x, _ => .str x
  | _, _, .tup q l, p => .tup q (RDs.dp l p)
  | _, _, .fl q _ l, p => .lst (SqL.of q) (RDs.dp l p)
  | _, _, .sc q l, p => .lst q.sql (RDs.dp l p)
  | _, _, .ref _, p => by cases p
theorem RDs.dp : ∀ {d : List D} {v : List V}, RDs K m G d v → D.pures d = true → DpAll K G v (D.ps d)
  | _, _, .nil, _ => .nil
  | _, _, .cons q l, p => by
    obtain ⟨p1, p2⟩ := ba (show (D.pure _ && D.pures _) = true from p)
    exact .cons (RD.dp q p1) (RDs.dp l p2)
end
mutual
theorem Dp.sub (s : Sub G H) : ∀ {v : V} {p : PyData}, Dp K G v p → Dp K H v p
  | _, _, .non => .non
  | _, _, .bl b => .bl b
  | _, _, .int i => .int i
  | _, _, .str x => .str x
  | _, _, .lst q l => .lst (SqL.sub s q) (DpAll.sub s l)
  | _, _, .tup q l => .tup (SqT.sub s q) (DpAll.sub s l)
theorem DpAll.sub (s : Sub G H) : ∀ {v : List V} {p : List PyData}, DpAll K G v p → DpAll K H v p
  | _, _, .nil => .nil
  | _, _, .cons q l => .cons (Dp.sub s q) (DpAll.sub s l)
end
theorem RR.py (s : Sub G H) (r : Rel K m h G) {x : RV} {v : V} {p : PyData} (q : RR K H0 m G H x v) (e : x.py h = some p) : Dp K H v p := by
  cases x with
  | d d =>
    have plain : ∀ d : D, (if d.pure then some d.p else none) = some p → RD K m G d v → Dp K H v p := fun d e q => by
      by_cases hp : d.pure = true
      · rw [if_pos hp] at e; cases e; exact Dp.sub s (q.dp hp)
      · rw [if_neg hp] at e; cases e
    cases d with
    | ref n =>
      obtain ⟨a, h1, h2⟩ := RD.ref_of q
      have e' : (match h[n]? with | some (.lst xs) => if D.pures xs then some (PyData.list (D.ps xs)) else none | _ => none) = some p := e
      cases z : h[n]? with
      | none => rw [z] at e'; cases e'
      | some o =>
        rw [z] at e'
        cases o with
        | lst ys =>
          obtain ⟨vs, h3, h4⟩ := r.lst z h2
          subst h1
          have e2 : (if D.pures ys then some (PyData.list (D.ps ys)) else none) = some p := e'
          by_cases hp : D.pures ys = true
          · rw [if_pos hp] at e2; cases e2; exact .lst (SqL.of (s _ _ h3)) (DpAll.sub s (h4.dp hp))
          · rw [if_neg hp] at e2; cases e2
        | dct _ => cases e'
    | non => exact plain .non e q
    | bl b => exact plain (.bl b) e q
    | int i => exact plain (.int i) e q
    | str z => exact plain (.str z) e q
    | tup z => exact plain (.tup z) e q
    | fl z => exact plain (.fl z) e q
    | sc z => exact plain (.sc z) e q
  | lst ys =>
    obtain ⟨a, vs, h1, h2, _, _, _, h4⟩ := q
    subst h1
    have e2 : (if D.pures ys then some (PyData.list (D.ps ys)) else none) = some p := e
    by_cases hp : D.pures ys = true
    · rw [if_pos hp] at e2; cases e2; exact .lst (SqL.of h2) (DpAll.sub s (h4.dp hp))
    · rw [if_neg hp] at e2; cases e2
  | dct _ => cases e
end
end Cw
end

section
set_option Elab.async false
set_option linter.all false
set_option maxRecDepth 100000
set_option maxHeartbeats 4000000
/-! Cw5: operators, comparisons, subscripts, built-in functions and methods keep what I says. -/
namespace Cw
open PySem PySem.Spec PyProof.Rows L2

section
variable {X : Cx} {c : Cs} {m m' : List Addr} {G H G' H' H0 H1 : Hp} {E : WE3} {h : Hh} {Q : VK} {vx vy : V} {x y z : RV}

/-- what follows once a value is there -/
abbrev Then (X : Cx) (m : List Addr) (G H : Hp) (h : Hh) (z : RV) (Q : VK) : Prop := ∀ m' G' H', Stp m G H m' G' H' → Rel X.K m' h G' → ∀ v, RR X.K H m' G' H' z v → Q v H'
theorem Then.now (t : Then X m G H h z Q) (s : Sub G H) (r : Rel X.K m h G) {v : V} (q : RR X.K H m G H z v) : Q v H := t m G H (.refl s) r v q
theorem Then.d {d : D} (t : Then X m G H h (.d d) Q) (s : Sub G H) (r : Rel X.K m h G) {v : V} (q : RD X.K m G d v) : Q v H := t m G H (.refl s) r v q
/-- a new list -/
theorem Then.lst {xs : List D} (t : Then X m G H h (.lst xs) Q) (s : Sub G H) (r : Rel X.K m h G) {vs : List V} (q : RDs X.K m G xs vs) {p : Addr} (n : H p = none) : Q (.ref p) (upd H p (.lst vs)) :=
  t m _ _ (Stp.newH s r n _) r _ ⟨p, vs, rfl, upd_same, s.no n, r.outNew s n, n, q⟩
/-- a new tuple -/
theorem Then.tup {xs : List D} (t : Then X m G H h (.d (.tup xs)) Q) (s : Sub G H) (r : Rel X.K m h G) {vs : List V} (q : RDs X.K m G xs vs) {p : Addr} (n : H p = none) : Q (.ref p) (upd H p (.tup vs)) :=
  t m _ _ (Stp.new1 s r n _) (r.new1 s n _) _ (.tup (SqT.of upd_same) (q.step r (Stp.new1 s r n _)))

theorem if_some {α : Type} {p : Prop} [Decidable p] {a b : α} (e : (if p then some a else none) = some b) : p ∧ a = b := by
  by_cases h : p
  · rw [if_pos h] at e; exact ⟨h, Option.some.inj e⟩
  · rw [if_neg h] at e; cases e

theorem bin_ok {o : Bop} (e : binOp o x y h = some z) (s : Sub G H) (r : Rel X.K m h G) (qx : RR X.K H0 m G H x vx) (qy : RR X.K H1 m G H y vy) (t : Then X m G H h z Q) :
    ∃ f : R2, OpR X (binaryOp (opOf o)) f ∧ f vx vy H Q := by
  unfold binOp at e
  split at e
  · cases e; cases RD.int_of qx; cases RD.int_of qy; exact ⟨_, op_add, _, _, rfl, rfl, t.d s r (.int _)⟩
  · cases e; cases RD.int_of qx; cases RD.int_of qy; exact ⟨_, op_sub, _, _, rfl, rfl, t.d s r (.int _)⟩
  · obtain ⟨h1, h2⟩ := if_some e; subst h2; cases RD.int_of qx; cases RD.int_of qy; exact ⟨_, op_mulW, _, _, rfl, rfl, h1, t.d s r (.int _)⟩
  · obtain ⟨h1, h2⟩ := if_some e; subst h2; cases RD.int_of qx; cases RD.int_of qy; exact ⟨_, op_fdivW, _, _, rfl, rfl, h1, t.d s r (.int _)⟩
  · obtain ⟨h1, h2⟩ := if_some e; subst h2; cases RD.int_of qx; cases RD.int_of qy; exact ⟨_, op_mod, _, _, rfl, rfl, h1, t.d s r (.int _)⟩
  · obtain ⟨h1, h2⟩ := if_some e; subst h2; cases RD.int_of qx; cases RD.int_of qy; exact ⟨_, op_pow, _, _, rfl, rfl, h1, t.d s r (.int _)⟩
  · obtain ⟨h1, h2⟩ := if_some e; subst h2; cases RD.str_of qx; cases RD.str_of qy; exact ⟨_, op_add_str, _, _, rfl, rfl, by rw [← line_eq]; exact h1, t.d s r (.str _)⟩
  · obtain ⟨h1, h2⟩ := if_some e; subst h2
    obtain ⟨a, vs, rfl, ha, la⟩ := RD.tup_of qx
    obtain ⟨b, ws, rfl, hb, lb⟩ := RD.tup_of qy
    refine ⟨_, op_catA, a, b, vs, ws, rfl, rfl, SqT.sub s ha, SqT.sub s hb, by rw [← la.length, ← lb.length, ← line_eq]; exact h1, fun e1 => ?_, fun _ e2 => ?_, fun _ _ p n => ?_⟩
    · subst e1; cases la; exact t.d s r (.tup hb (by simpa using lb))
    · subst e2; cases lb; exact t.d s r (.tup ha (by simpa using la))
    · exact t.tup s r (la.app lb) n
  · rename_i x' y' _ _ _
    cases ex : x.lis h with
    | none => rw [ex] at e; cases e
    | some xs =>
      cases ey : y.lis h with
      | none => rw [ex, ey] at e; cases e
      | some ys =>
        rw [ex, ey] at e
        obtain ⟨h1, h2⟩ := if_some e; subst h2
        obtain ⟨a, vs, rfl, ha, la⟩ := RR.lis s r qx ex
        obtain ⟨b, ws, rfl, hb, lb⟩ := RR.lis s r qy ey
        exact ⟨_, op_cat, a, b, vs, ws, rfl, rfl, ha, hb, by rw [← la.length, ← lb.length, ← line_eq]; exact h1, fun p n => t.lst s r (la.app lb) n⟩
  · cases ex : x.lis h with
    | none => rw [ex] at e; cases e
    | some xs =>
      rw [ex] at e
      obtain ⟨⟨h0, h1, h3⟩, h2⟩ := if_some e; subst h2
      obtain ⟨a, vs, rfl, ha, la⟩ := RR.lis s r qx ex
      cases RD.int_of qy
      exact ⟨_, op_rep, a, _, vs, rfl, rfl, ha, by omega, h1, by rw [← la.length, ← line_eq]; exact h3, fun p n => t.lst s r (la.rep _) n⟩
  · cases e

theorem cmp_ok (hu : X.A.units + 65 < cLine) {o : Cop} {k : Bool} (e : cmpOp o x y h = some k) (s : Sub G H) (r : Rel X.K m h G) (qx : RR X.K H0 m G H x vx) (qy : RR X.K H1 m G H y vy) (t : Q (.bl k) H) :
    ∃ f : R2, OpR X (compareOp (cOf o)) f ∧ f vx vy H Q := by
  unfold cmpOp at e
  split at e
  · cases e; cases RD.int_of qx; cases RD.int_of qy; exact ⟨_, op_lt, _, _, rfl, rfl, t⟩
  · cases e; cases RD.int_of qx; cases RD.int_of qy; exact ⟨_, op_le, _, _, rfl, rfl, t⟩
  · cases e; cases RD.int_of qx; cases RD.int_of qy; exact ⟨_, op_gt, _, _, rfl, rfl, t⟩
  · cases e; cases RD.int_of qx; cases RD.int_of qy; exact ⟨_, op_ge, _, _, rfl, rfl, t⟩
  · cases ex : x.py h with
    | none => rw [ex] at e; cases e
    | some a =>
      cases ey : y.py h with
      | none => rw [ex, ey] at e; cases e
      | some b =>
        rw [ex, ey] at e
        obtain ⟨h1, h2⟩ := if_some e; subst h2
        obtain ⟨h3, h4⟩ := ba h1
        exact ⟨_, op_eqD (by omega), a, b, RR.py s r qx ex, RR.py s r qy ey, h3, h4, t⟩
  · cases ex : x.py h with
    | none => rw [ex] at e; cases e
    | some a =>
      cases ey : y.py h with
      | none => rw [ex, ey] at e; cases e
      | some b =>
        rw [ex, ey] at e
        obtain ⟨h1, h2⟩ := if_some e; subst h2
        obtain ⟨h3, h4⟩ := ba h1
        exact ⟨_, op_neD (by omega), a, b, RR.py s r qx ex, RR.py s r qy ey, h3, h4, t⟩
  · cases ex : x.py h with
    | none => rw [ex] at e; cases e
    | some a =>
      cases ey : y.py h with
      | none => rw [ex, ey] at e; cases e
      | some b =>
        rw [ex, ey] at e
        cases b with
        | list ds =>
          obtain ⟨h1, h2⟩ := if_some e; subst h2
          obtain ⟨h3, h4⟩ := ba h1
          exact ⟨_, op_inD hu, a, ds, RR.py s r qx ex, RR.py s r qy ey, h3, h4, t⟩
        | tuple ds =>
          obtain ⟨h1, h2⟩ := if_some e; subst h2
          exact ⟨_, Cx1.op_tupHas hu, a, ds, RR.py s r qx ex, RR.py s r qy ey, ba h1, t⟩
        | _ => cases e
  · cases ex : x.py h with
    | none => rw [ex] at e; cases e
    | some a =>
      cases ey : y.py h with
      | none => rw [ex, ey] at e; cases e
      | some b =>
        rw [ex, ey] at e
        cases b with
        | list ds =>
          obtain ⟨h1, h2⟩ := if_some e; subst h2
          obtain ⟨h3, h4⟩ := ba h1
          exact ⟨_, op_notInD hu, a, ds, RR.py s r qx ex, RR.py s r qy ey, h3, h4, t⟩
        | tuple ds =>
          obtain ⟨h1, h2⟩ := if_some e; subst h2
          exact ⟨_, Cx1.op_tupHasNot hu, a, ds, RR.py s r qx ex, RR.py s r qy ey, ba h1, t⟩
        | _ => cases e
  · cases e
    cases RD.non_of qy
    refine ⟨_, op_isN, rfl, ?_⟩
    rename_i d
    cases d with
    | non => cases RD.non_of qx; exact t
    | _ =>
      have : ¬ (vx = V.non) := fun z => by subst z; cases qx
      rw [decide_eq_false this]; exact t
  · cases e
    cases RD.non_of qy
    refine ⟨_, op_notN, rfl, ?_⟩
    rename_i d
    cases d with
    | non => cases RD.non_of qx; exact t
    | _ =>
      have : ¬ (vx = V.non) := fun z => by subst z; cases qx
      rw [decide_eq_false this]; exact t
  · cases e; cases RD.bl_of qx; cases RD.bl_of qy; exact ⟨_, op_isBl, _, _, rfl, rfl, t⟩
  · cases e; cases RD.bl_of qx; cases RD.bl_of qy; exact ⟨_, op_notBl, _, _, rfl, rfl, t⟩
  · cases e
end
end Cw
end

section
set_option Elab.async false
set_option linter.all false
set_option maxRecDepth 100000
set_option maxHeartbeats 4000000
/-! Cw6: subscripts, slices, sorted, built-in functions, methods. -/
namespace Cw
open PySem PySem.Spec PyProof.Rows L2

theorem mergeF_eq {α : Type} (le : α → α → Bool) : ∀ (n : Nat) (xs ys : List α), xs.length + ys.length ≤ n → mergeF le n xs ys = List.merge xs ys le
  | 0, [], [], _ => by simp [mergeF]
  | 0, _ :: _, _, h => by simp at h
  | 0, [], _ :: _, h => by simp at h
  | n + 1, [], ys, _ => by simp [mergeF]
  | n + 1, x :: xs, [], _ => by simp [mergeF]
  | n + 1, x :: xs, y :: ys, h => by
    unfold mergeF
    rw [List.cons_merge_cons]
    simp only [List.length_cons] at h
    rw [mergeF_eq le n xs (y :: ys) (by simp only [List.length_cons]; omega), mergeF_eq le n (x :: xs) ys (by simp only [List.length_cons]; omega)]
theorem msF_eq {α : Type} (le : α → α → Bool) : ∀ (n : Nat) (xs : List α), xs.length ≤ n → msF le n xs = xs.mergeSort le
  | 0, [], _ => by simp [msF]
  | 0, _ :: _, h => by simp at h
  | n + 1, [], _ => by simp [msF]
  | n + 1, [a], _ => by simp [msF]
  | n + 1, a :: b :: r, h => by
    unfold msF
    simp only [List.length_cons] at h
    have l1 : ((a :: b :: r).take ((r.length + 3) / 2)).length ≤ n := by rw [List.length_take]; simp only [List.length_cons]; omega
    have l2 : ((a :: b :: r).drop ((r.length + 3) / 2)).length ≤ n := by rw [List.length_drop]; simp only [List.length_cons]; omega
    rw [msF_eq le n _ l1, msF_eq le n _ l2, mergeF_eq]
    · rw [List.mergeSort]
      simp only [List.MergeSort.Internal.splitInTwo_fst, List.MergeSort.Internal.splitInTwo_snd, List.length_cons]
    · rw [List.length_mergeSort, List.length_mergeSort, List.length_take, List.length_drop]; simp only [List.length_cons]; omega
theorem sortD_eq (xs : List D) : sortD xs = xs.mergeSort (PySem.W.dataLe false D.p) := msF_eq _ _ _ (Nat.le_refl _)
section
variable {prog : Program} {w : World} {A : Around} {E : Value → Shared → Prop} {s : Shared}
theorem collect_tup {l : Addr} {vs : List Value} {Q : List Value → Shared → Prop} (hl : s.heap.IsTuple l vs.toArray)
    (h : Q vs { s with heap := (s.heap.push (seqObj "list" #[] 0)).update s.heap.objs.size (Obj.mapSeq (· ++ vs.toArray)) }) (hsz : vs.length ≤ sizeLine) :
    wpAny (model prog w) A (collect (.ref l)) Q E s := by
  obtain ⟨o, ho, hc, n, hd⟩ := id hl
  unfold collect
  refine wpAny_bind (wpAny_runValue (codeAny_builtin entry_proto_collect' ?_))
  show wpAny _ _ (do again (.builtin "list.__iadd__" ⟨[← newList [], .ref l], []⟩)) _ _ s
  refine wpAny_bind (wpAny_newList (wpAny_pure ⟨Code.quiet_builtin _ (by decide +kernel), codeAny_builtin entry_list_iadd' ?_⟩))
  show wpAny _ _ (Builtin.List.listExtendWith (.ref s.heap.objs.size) (.ref l) (.ref s.heap.objs.size)) _ _ { s with heap := s.heap.push (seqObj "list" #[] 0) }
  unfold Builtin.List.listExtendWith
  have ho' : (s.heap.push (seqObj "list" #[] 0)).get? l = some o := Heap.get?_push_of_some _ ho
  refine wpAny_bind (wpAny_typeOf (T := "tuple") ⟨o, ho', hc⟩ ?_)
  have ht : (Value.type "tuple" == Value.type "tuple") = true := by rfl
  rw [if_pos (by rw [ht]; simp)]
  refine wpAny_bind (listItems_at ho' hd ?_)
  refine wpAny_bind (listItems_at (xs := #[]) (n := 0) (Heap.get?_push_size _ rfl) rfl ?_)
  rw [if_neg (by simp)]
  refine wpAny_bind (listUpdate_at (xs := #[]) (n := 0) (Heap.get?_push_size _ rfl) rfl ?_ (Nat.zero_le _) (by show (#[] ++ vs.toArray).size ≤ sizeLine + 1; simp only [Array.size_append, List.size_toArray, List.length_nil]; omega))
  refine wpAny_pure ?_
  show wpAny (model prog w) A (do
      let o ← load s.heap.objs.size
      match o.data with
      | .seq xs _ => pure xs.toList
      | _ => unsupported "internal:collect") Q E { s with heap := (s.heap.push (seqObj "list" #[] 0)).update s.heap.objs.size (Obj.mapSeq (· ++ vs.toArray)) }
  refine wpAny_bind (wpAny_load (get?_update_seq (Heap.get?_push_size _ rfl) _) ?_)
  show wpAny _ _ (pure ((#[] : Array Value) ++ vs.toArray).toList) Q E _
  rw [show ((#[] : Array Value) ++ vs.toArray).toList = vs by simp]
  exact wpAny_pure h
/-- all are tuples, the first one is empty -/
def Tup0 (ds : List PyData) : Prop := (∃ r, ds = .tuple [] :: r) ∧ ∀ d, d ∈ ds → ∃ xs, d = .tuple xs
theorem sorts_of {vs : List Value} {ds : List PyData} (e : PySem.W.EachIs (fun v d => ∃ as, Reads s.heap v d as) vs ds) (hal : PySem.W.AllAlike ds) (hk : PySem.W.Sortable ds ∨ Tup0 ds) (hu : ∀ d, d ∈ ds → A.units + d.depth < cLine) : PySem.W.SortsAt prog w A s (PySem.W.dataKind s.heap ds) vs := by
  rcases hk with hk | ⟨⟨r, rfl⟩, ht⟩
  · exact PySem.W.SortsAt.data e hal hk hu
  · exact Cx1.sorts0 e ht hal hu
/-- sorted(t), t a tuple -/
theorem sorted_tup {α : Type} {enc : α → PyData} {R : Value → α → Prop} {l : Addr} {vs : List Value} {bs : List α} {Q : Value → Shared → Prop} (hl : s.heap.IsTuple l vs.toArray) (e : PySem.W.EachIs R vs bs) (er : PySem.W.EachIs (fun v b => ∃ as, Reads s.heap v (enc b) as) vs bs) (hal : PySem.W.AllAlike (bs.map enc)) (hk : PySem.W.Sortable (bs.map enc) ∨ Tup0 (bs.map enc)) (hL : bs.length ≤ sizeLine)
    (hu : ∀ b, b ∈ bs → A.units + 2 + (enc b).depth < cLine) (h : ∀ out, out.length = bs.length → PySem.W.EachIs R out (bs.mergeSort (PySem.W.dataLe false enc)) → Q (.ref (s.heap.objs.size + 1)) { s with heap := sortedAll s.heap vs (List.toArray out) }) :
    wpAny (model prog w) A (call (.builtin "sorted") [.ref l]) Q E s := by
  have hL' : vs.length ≤ sizeLine := by rw [e.length]; exact hL
  refine PySem.Calls.call_function_entry kind_sorted plain_sorted entry_sorted (args_sorted1 _) ?_
  unfold Builtin.«sorted»
  refine wpAny_bind (m := checkCount "sorted" 1 1 _) (wpAny_pure ?_)
  refine wpAny_bind (collect_tup hl ?_ hL')
  refine wpAny_bind (wpAny_newList ?_ hL')
  have hsz : ((s.heap.push (seqObj "list" #[] 0)).update s.heap.objs.size (Obj.mapSeq (· ++ vs.toArray))).objs.size = s.heap.objs.size + 1 := by
    rw [Heap.size_update, size_push']
  show wpAny _ _ _ _ _ { s with heap := PySem.W.copyHeap s.heap vs }
  rw [hsz]
  refine wpAny_bind (wpAny_holding (wpAny_call_entry slot_list_sort ⟨_, PySem.W.copyHeap_at s.heap vs, rfl⟩ entry_list_sort ?body (args_list_sort _)))
  case body =>
    have er' : PySem.W.EachIs (fun v b => ∃ as, Reads (PySem.W.sortingHeap (PySem.W.copyHeap s.heap vs) (s.heap.objs.size + 1) vs) v (enc b) as) vs bs := er.mono fun _ _ ⟨as, r⟩ => ⟨as, PyProof.Rows.Reads.keeps (fun _ _ => PySem.W.sorting_copy_old) r⟩
    show wpAny (model prog w) A.in1.in1 (Builtin.«list.sort» ⟨[.ref (s.heap.objs.size + 1)], []⟩) _ _ _
    refine PySem.W.list_sort_vals (s := { s with heap := PySem.W.copyHeap s.heap vs }) (PySem.W.copyHeap_at s.heap vs) (sorts_of (s := { s with heap := PySem.W.sortingHeap (PySem.W.copyHeap s.heap vs) (s.heap.objs.size + 1) vs }) (PySem.W.each_map (R := fun v d => ∃ as, Reads (PySem.W.sortingHeap (PySem.W.copyHeap s.heap vs) (s.heap.objs.size + 1) vs) v d as) enc er') hal hk (PySem.W.bound_map hu)) hL' ?_
    exact ⟨_, rfl, wpAny_pure ⟨_, rfl, h _ (by rw [PySem.W.sortVals_length false rfl]; exact e.length) (PySem.W.sortVals_data false e er' hal)⟩⟩
end
section
variable {X : Cx} {c : Cs} {m m' : List Addr} {G H G' H' H0 H1 : Hp} {E : WE3} {h : Hh} {Q : VK} {vx vy : V} {x y z : RV} {K : PySem.W.Frag}

theorem RDs.atD {xs : List D} {vs : List V} {i : Int} {d : D} (l : RDs K m G xs vs) (e : Cw.atD xs i = some d) : ∃ v, atI vs i = some v ∧ RD K m G d v := by
  unfold Cw.atD at e
  unfold atI
  rw [← l.length]
  cases q : ixN xs.length i with
  | none => rw [q] at e; cases e
  | some j =>
    rw [q] at e
    exact RDs.get l e
theorem RDs.cut {xs : List D} {vs : List V} (lo hi : Option Int) (l : RDs K m G xs vs) : RDs K m G (cutD xs lo hi) (cutV vs lo hi) := by
  unfold cutD cutV
  rw [l.length]
  exact (l.drop _).take _
theorem keyOf_rd {d : D} {k : Key} {v : V} (q : RD K m G d v) (e : keyOf d = some k) : v = kV k := by
  cases d with
  | int i => cases e; cases q; rfl
  | str i => cases e; cases q; rfl
  | _ => cases e

theorem strOf_eq {z : Str} (e : strOf x = some z) : x = .d (.str z) := by
  cases x with
  | d d => cases d with
    | str z => cases e; rfl
    | _ => cases e
  | _ => cases e
theorem RR.lisc (s : Sub G H) (r : Rel K m h G) {v : V} {xs : List D} (q : RR K H0 m G H x v) (e : x.lisc h = some xs) : ∃ a vs, v = .ref a ∧ SqL K H a vs ∧ RDs K m G xs vs := by
  have gen : x.lis h = some xs → ∃ a vs, v = .ref a ∧ SqL K H a vs ∧ RDs K m G xs vs := fun e => by
    obtain ⟨a, vs, h1, h2, h3⟩ := RR.lis s r q e
    exact ⟨a, vs, h1, SqL.of h2, h3⟩
  cases x with
  | d d =>
    cases d with
    | sc ys => cases e; obtain ⟨a, vs, h1, h2, h3⟩ := RD.sc_of q; exact ⟨a, vs, h1, SqL.sub s h2.sql, h3⟩
    | _ => exact gen e
  | _ => exact gen e
theorem ix_dict (hu : X.A.units + 1 < cLine) : IxR X (fun x y H Q => ∃ a v, x = .ref a ∧ DGet H a y (some v) ∧ Q v H) := by
  intro value slice pins s σ H x y v u Q I rx ry h hs
  obtain ⟨a, w, ex, g, q⟩ := h
  subst ex
  obtain rfl : v = Value.ref a := rx
  have hT := dict_typeIs I g
  unfold subscriptTail
  refine wpAny_bind ?_
  rw [getitemInPython_of_ne hT.not_modules]
  refine wpAny_bind (wpAny_specialOf hT PySem.F.slot_dict_getitem.lookup ?_)
  have fin : wpAny (model X.prog X.w) X.A (subscripted slice false (.ref a) u) (fun r s₃ => wpAny (model X.prog X.w) X.A (letTemporaryGo value (.ref a) r >>= fun _ => pure r) (EP X pins σ Q) X.xe s₃) X.xe s := by
    rw [hs]
    exact wpAny_operating (d_getItem hu I g ry fun w' s3 I3 rw' => wpAny_bind (wpAny_letTemporaryGo (wpAny_pure ⟨w, H, I3, rw', q⟩)))
  first
    | exact wpAny_pure (wpAny_bind fin)
    | exact wpAny_bind (wpAny_pure (wpAny_bind fin))
    | exact wpAny_bind fin
/-- a[i] -/
theorem ix_ok (hu : X.A.units + 1 < cLine) {y : D} {d : D} (e : ixOp x y h = some d) (s : Sub G H) (r : Rel X.K m h G) (qx : RR X.K H0 m G H x vx) (qy : RD X.K m G y vy) (t : ∀ v, RD X.K m G d v → Q v H) :
    ∃ f : R2, IxR X f ∧ f vx vy H Q := by
  unfold ixOp at e
  cases ez : strOf x with
  | some z =>
    rw [ez] at e
    have e : sixOp z y = some d := e
    cases strOf_eq ez
    cases y with
    | int i =>
      have e : (if z.length ≤ line then (Cw.atD z.cps.toList i).map chr1 else none) = some d := e
      by_cases hz : z.length ≤ line
      · rw [if_pos hz] at e
        cases q : Cw.atD z.cps.toList i with
        | none => rw [q] at e; cases e
        | some c =>
          rw [q] at e
          cases e
          cases RD.str_of qx
          cases qy
          exact ⟨_, ix_str, _, _, _, rfl, rfl, by rw [← line_eq]; exact hz, q, t _ (.str _)⟩
      · rw [if_neg hz] at e; cases e
    | _ => cases e
  | none =>
    rw [ez] at e
    cases ex : x.seq h with
    | some xs =>
      rw [ex] at e
      have e : qixOp xs y = some d := e
      cases y with
      | int i =>
        have e : Cw.atD xs i = some d := e
        cases qy
        obtain ⟨a, vs, rfl, hq, l⟩ := RR.seq s r qx ex
        obtain ⟨v, e1, q1⟩ := l.atD e
        rcases hq with hq | hq
        · exact ⟨_, ix_list, a, vs, i, v, rfl, rfl, hq, e1, t v q1⟩
        · exact ⟨_, ix_tup, a, vs, i, v, rfl, rfl, SqT.sub s hq, e1, t v q1⟩
      | _ => cases e
    | none =>
      rw [ex] at e
      have e : dgetOp x y h = some d := e
      cases x with
      | d dd =>
        cases dd with
        | ref n =>
          have e : (match h[n]? with | some (.dct kvs) => (keyOf y).bind fun k => getK kvs k | _ => none) = some d := e
          cases z : h[n]? with
          | none => rw [z] at e; cases e
          | some o =>
            rw [z] at e
            cases o with
            | lst _ => cases e
            | dct kvs =>
              have e : ((keyOf y).bind fun k => getK kvs k) = some d := e
              cases ek : keyOf y with
              | none => rw [ek] at e; cases e
              | some k =>
                rw [ek] at e
                obtain ⟨a, rfl, ha⟩ := RD.ref_of qx
                obtain ⟨ws, g, l⟩ := r.dct z ha
                obtain ⟨v, e1, q1⟩ := l.get e
                refine ⟨_, ix_dict hu, a, v, rfl, ?_, t v q1⟩
                rw [keyOf_rd qy ek, ← e1]
                exact DGet.k (s _ _ g)
        | _ => cases e
      | _ => cases e

/-- a[lo:hi] -/
theorem sl_ok {lo hi : Option Int} (e : slOp x lo hi h = some z) (s : Sub G H) (r : Rel X.K m h G) (qx : RR X.K H0 m G H x vx) (t : Then X m G H h z Q) : ∃ f : V → Option Int → Option Int → Hp → VK → Prop, SlR X f ∧ f vx lo hi H Q := by
  unfold slOp at e
  split at e
  · obtain ⟨h1, h2⟩ := if_some e
    subst h2
    cases RD.str_of qx
    exact ⟨_, sl_str, _, rfl, by rw [← line_eq]; exact h1, t.d s r (.str _)⟩
  · cases e
    obtain ⟨a, vs, rfl, hq, l⟩ := RD.tup_of qx
    refine ⟨_, sl_tupA, a, vs, rfl, SqT.sub s hq, fun he => ?_, fun _ p n => t.tup s r (l.cut lo hi) n⟩
    refine t.d s r (.tup hq ?_)
    have ec : cutV vs lo hi = vs := by
      unfold cutV
      rw [he.1, he.2]
      simp
    have := l.cut lo hi
    rw [ec] at this
    exact this
  · cases q : x.lisc h with
    | none => rw [q] at e; cases e
    | some xs =>
      rw [q] at e
      cases e
      obtain ⟨a, vs, rfl, hq, l⟩ := RR.lisc s r qx q
      exact ⟨_, sl_list, a, vs, rfl, hq, fun p n => t.lst s r (l.cut lo hi) n⟩

/-! ### sorted -/
theorem alikeTo_ok {d : PyData} : ∀ {l : List PyData}, alikeTo d l = true → ∀ e, e ∈ l → PySem.W.alike d e = true
  | [], _, e, he => absurd he (by simp)
  | x :: r, h, e, he => by
    obtain ⟨h1, h2⟩ := ba (show (PySem.W.alike d x && alikeTo d r) = true from h)
    rcases List.mem_cons.mp he with q | q
    · rw [q]; exact h1
    · exact alikeTo_ok h2 e q
theorem allAlike_ok {all : List PyData} : ∀ {l : List PyData}, allAlike all l = true → ∀ d, d ∈ l → ∀ e, e ∈ all → PySem.W.alike d e = true
  | [], _, e, he => absurd he (by simp)
  | x :: r, h, d, hd => by
    obtain ⟨h1, h2⟩ := ba (show (alikeTo x all && allAlike all r) = true from h)
    rcases List.mem_cons.mp hd with q | q
    · rw [q]; exact alikeTo_ok h1
    · exact allAlike_ok h2 d q
theorem isInt_inv {d : PyData} (h : isInt d = true) : ∃ i, d = .int i := by
  unfold isInt at h
  split at h
  · exact ⟨_, rfl⟩
  · cases h
theorem tupI_inv {d : PyData} (h : tupI d = true) : ∃ xs, d = .tuple xs ∧ xs.all isInt = true := by
  unfold tupI at h
  split at h
  · exact ⟨_, rfl, h⟩
  · cases h
theorem tupII_inv {d : PyData} (h : tupII d = true) : ∃ xs, d = .tuple xs ∧ xs.all tupI = true := by
  unfold tupII at h
  split at h
  · exact ⟨_, rfl, h⟩
  · cases h
theorem each_alike {p : PyData → Bool} (hp : ∀ {d e : PyData}, p d = true → p e = true → PySem.W.alike d e = true) : ∀ {xs ys : List PyData}, xs.all p = true → ys.all p = true → PySem.W.alikeAll xs ys = true
  | [], _, _, _ => by simp [PySem.W.alikeAll]
  | _ :: _, [], _, _ => by simp [PySem.W.alikeAll]
  | x :: xs, y :: ys, h1, h2 => by
    rw [List.all_cons] at h1 h2
    obtain ⟨a1, a2⟩ := ba h1
    obtain ⟨b1, b2⟩ := ba h2
    simp only [PySem.W.alikeAll, hp a1 b1, each_alike hp a2 b2, Bool.and_self]
theorem int_alike {d e : PyData} (h1 : isInt d = true) (h2 : isInt e = true) : PySem.W.alike d e = true := by
  obtain ⟨i, rfl⟩ := isInt_inv h1
  obtain ⟨j, rfl⟩ := isInt_inv h2
  simp only [PySem.W.alike]
theorem tupI_alike {d e : PyData} (h1 : tupI d = true) (h2 : tupI e = true) : PySem.W.alike d e = true := by
  obtain ⟨xs, rfl, h3⟩ := tupI_inv h1
  obtain ⟨ys, rfl, h4⟩ := tupI_inv h2
  simp only [PySem.W.alike]
  exact each_alike int_alike h3 h4
theorem tupII_alike {d e : PyData} (h1 : tupII d = true) (h2 : tupII e = true) : PySem.W.alike d e = true := by
  obtain ⟨xs, rfl, h3⟩ := tupII_inv h1
  obtain ⟨ys, rfl, h4⟩ := tupII_inv h2
  simp only [PySem.W.alike]
  exact each_alike tupI_alike h3 h4
theorem alikes_ok {ds : List PyData} (h : alikes ds = true) : PySem.W.AllAlike ds := by
  rcases Bool.or_eq_true_iff.mp h with h | h
  · rcases Bool.or_eq_true_iff.mp h with h | h
    · exact fun d hd e he => tupI_alike (List.all_eq_true.mp h d hd) (List.all_eq_true.mp h e he)
    · exact fun d hd e he => tupII_alike (List.all_eq_true.mp h d hd) (List.all_eq_true.mp h e he)
  · exact allAlike_ok h
theorem ps_map : ∀ xs : List D, D.ps xs = xs.map D.p
  | [] => rfl
  | x :: r => by rw [List.map_cons, ← ps_map r]; rfl
theorem pures_mem : ∀ {xs : List D}, D.pures xs = true → ∀ d, d ∈ xs → d.pure = true
  | [], _, d, hd => absurd hd (by simp)
  | x :: r, h, d, hd => by
    obtain ⟨h1, h2⟩ := ba (show (D.pure x && D.pures r) = true from h)
    rcases List.mem_cons.mp hd with q | q
    · rw [q]; exact h1
    · exact pures_mem h2 d q
theorem sortable_ok {ds : List PyData} (h : sortable ds = true) : PySem.W.AllAlike ds ∧ (PySem.W.Sortable ds ∨ Tup0 ds) ∧ ∀ d, d ∈ ds → d.depth ≤ 60 := by
  obtain ⟨h12, h3⟩ := ba (show ((((ds.all isTup1 || ds.all noTup) || tup0 ds) && alikes ds) && ds.all fun d => decide (d.depth ≤ 60)) = true from h)
  obtain ⟨h1, h2⟩ := ba h12
  refine ⟨alikes_ok h2, ?_, fun d hd => of_decide_eq_true (List.all_eq_true.mp h3 d hd)⟩
  rcases Bool.or_eq_true_iff.mp h1 with h1 | h0
  rotate_left
  · right
    unfold tup0 at h0
    split at h0
    · refine ⟨⟨_, rfl⟩, fun d hd => ?_⟩
      rcases List.mem_cons.mp hd with rfl | hd
      · exact ⟨_, rfl⟩
      · have z := List.all_eq_true.mp h0 d hd
        cases d with
        | tuple xs => exact ⟨xs, rfl⟩
        | _ => cases z
    · cases h0
  left
  rcases Bool.or_eq_true_iff.mp h1 with q | q
  · refine .inl fun d hd => ?_
    have z := List.all_eq_true.mp q d hd
    cases d with
    | tuple xs => cases xs with
      | nil => cases z
      | cons x r => exact ⟨x, r, rfl⟩
    | _ => cases z
  · refine .inr fun d hd => ?_
    have z := List.all_eq_true.mp q d hd
    cases d with
    | tuple xs => cases z
    | none => cases z
    | _ => exact ⟨(by intro w; cases w), fun xs w => by cases w⟩
theorem eachIs_of {K : PySem.W.Frag} : ∀ {ds : List D} {vs : List V} {us : List Value}, RDs K m G ds vs → Vals vs us → PySem.W.EachIs (fun u d => ∃ v, RelV v u ∧ RD K m G d v) us ds
  | _, _, _, .nil, r => by cases r; exact .nil
  | _, _, _, .cons q l, r => by
    cases r with
    | cons r1 r2 => exact .cons ⟨_, r1, q⟩ (eachIs_of l r2)
theorem of_eachIs {K : PySem.W.Frag} : ∀ {ds : List D} {us : List Value}, PySem.W.EachIs (fun u d => ∃ v, RelV v u ∧ RD K m G d v) us ds → ∃ vs, Vals vs us ∧ RDs K m G ds vs
  | _, _, .nil => ⟨[], .nil, .nil⟩
  | _, _, .cons q l => by
    obtain ⟨v, r, q⟩ := q
    obtain ⟨vs, r2, l2⟩ := of_eachIs l
    exact ⟨v :: vs, .cons r r2, .cons q l2⟩
def rSortX (X : Cx) : List V → Hp → VK → Prop := fun us H Q => ∃ (a : Addr) (vs : List V) (xs : List D) (m : List Addr) (G : Hp), us = [V.ref a] ∧ (SqL X.K H a vs ∨ SqT X.K H a vs) ∧ Sub G H ∧ RDs X.K m G xs vs ∧ D.pures xs = true ∧ sortable (D.ps xs) = true ∧
  ∀ (ws : List V) (p : Addr), RDs X.K m G (sortD xs) ws → H p = none → Q (.ref p) (upd H p (.lst ws))
theorem cr_sortX (hu : X.A.units + 65 < cLine) : CallR X (.builtin "sorted") (rSortX X) := by
  intro pins s σ H us us' Q I rv h
  obtain ⟨a, vs, xs, m, G, rfl, hq, hs, l, hp, hso, q⟩ := h
  rw [Vals.ref1 rv]
  rw [ps_map] at hso
  obtain ⟨k1, k2, k3⟩ := sortable_ok hso
  have fin : ∀ (its out : List Value), vs.length ≤ sizeLine → out.length = xs.length → PySem.W.EachIs (fun u d => ∃ v, RelV v u ∧ RD X.K m G d v) out (xs.mergeSort (PySem.W.dataLe false D.p)) → EP X pins σ Q (.ref (s.heap.objs.size + 1)) { s with heap := sortedAll s.heap its (List.toArray out) } := fun its out hz ho hout => by
    obtain ⟨ws, r3, l3⟩ := of_eachIs hout
    obtain ⟨ep, he'⟩ := PyProof.Rows.sortedAll_at s.heap its out.toArray
    have hlen : ws.length ≤ sizeLine := by rw [r3.length, ho, l.length]; exact hz
    have l3 : RDs X.K m G (sortD xs) ws := by rw [sortD_eq]; exact l3
    exact ⟨.ref _, upd H (s.heap.objs.size + 1) (.lst ws), I.laid (t' := s.toks) (fun _ _ => PyProof.Rows.sortedAll_old) (Nat.le_succ _) ⟨hlen, out, ep, r3, he'⟩, rfl, q ws _ l3 (I.hok.fresh (Nat.le_succ _))⟩
  have un : ∀ b, b ∈ xs → X.A.units + 2 + (D.p b).depth < cLine := fun b hb => by
    have := k3 (D.p b) (List.mem_map.mpr ⟨b, hb, rfl⟩)
    omega
  rcases hq with hq | hq
  · obtain ⟨its, rv2, pl, hz⟩ := I.list hq
    have each := eachIs_of l rv2
    have er : PySem.W.EachIs (fun v b => ∃ as, Reads s.heap v (D.p b) as) its xs := (PySem.W.each_mem each).mono fun u d ⟨⟨v, r1, r2⟩, hd⟩ => Dp.reads I _ v u (Dp.sub hs (r2.dp (pures_mem hp d hd))) r1
    rcases k2 with k2 | ⟨⟨r0, h0⟩, ht⟩
    · exact PySem.W.sorted_data (enc := D.p) pl.isList each er k1 k2 (by rw [l.length]; exact hz) un fun out ho hout => fin its out hz ho hout
    · exact Cx1.sorted0 (enc := D.p) pl.isList each er k1 h0 ht (by rw [l.length]; exact hz) un fun out ho hout => fin its out hz ho hout
  · obtain ⟨its, rv2, pl, hz⟩ := I.tuple hq
    have each := eachIs_of l rv2
    have er : PySem.W.EachIs (fun v b => ∃ as, Reads s.heap v (D.p b) as) its xs := (PySem.W.each_mem each).mono fun u d ⟨⟨v, r1, r2⟩, hd⟩ => Dp.reads I _ v u (Dp.sub hs (r2.dp (pures_mem hp d hd))) r1
    exact sorted_tup (enc := D.p) pl each er k1 k2 (by rw [l.length]; exact hz) un fun out ho hout => fin its out hz ho hout
end
end Cw
end

section
set_option Elab.async false
set_option linter.all false
set_option maxRecDepth 100000
set_option maxHeartbeats 4000000
/-! Cw7: built-in functions, methods. -/
namespace Cw
open PySem PySem.Spec PyProof.Rows L2

inductive RRs (K : PySem.W.Frag) (H0 : Hp) (m : List Addr) (G H : Hp) : List RV → List V → Prop
  | nil : RRs K H0 m G H [] []
  | cons {x : RV} {v : V} {xs : List RV} {vs : List V} : RR K H0 m G H x v → RRs K H0 m G H xs vs → RRs K H0 m G H (x :: xs) (v :: vs)

section
variable {X : Cx} {c : Cs} {m m' m2 : List Addr} {G H G' H' G2 H2 H0 H1 : Hp} {E : WE3} {h h' : Hh} {Q : VK} {vx vy : V} {x y z : RV} {K : PySem.W.Frag}
theorem RRs.step (r : Rel K m h G) (s : Stp m G H m' G' H') {xs : List RV} {vs : List V} (q : RRs K H0 m G H xs vs) : RRs K H0 m' G' H' xs vs := by
  induction q with
  | nil => exact .nil
  | cons q _ ih => exact .cons (RR.step r s q) ih
theorem RRs.early (s : Stp m2 G2 H2 m G H) {xs : List RV} {vs : List V} (q : RRs K H m' G' H' xs vs) (p : ∀ a, a ∈ m → a ∈ m') : RRs K H2 m' G' H' xs vs := by
  induction q with
  | nil => exact .nil
  | cons q _ ih => exact .cons (RR.early s q p) ih

theorem intsD_ok : ∀ {xs : List D} {ns : List Int} {vs : List V}, intsD xs = some ns → RDs K m G xs vs → vs = ns.map V.int
  | [], _, _, e, l => by cases e; cases l; rfl
  | .int i :: r, ns, _, e, l => by
    have e : (intsD r).map (i :: ·) = some ns := e
    cases q : intsD r with
    | none => rw [q] at e; cases e
    | some ms =>
      rw [q] at e
      cases e
      cases l with
      | cons p l => cases p; rw [intsD_ok q l]; rfl
  | .non :: _, _, _, e, _ => by cases e
  | .bl _ :: _, _, _, e, _ => by cases e
  | .str _ :: _, _, _, e, _ => by cases e
  | .tup _ :: _, _, _, e, _ => by cases e
  | .fl _ :: _, _, _, e, _ => by cases e
  | .sc _ :: _, _, _, e, _ => by cases e
  | .ref _ :: _, _, _, e, _ => by cases e
theorem boolsD_ok : ∀ {xs : List D} {ns : List Bool} {vs : List V}, boolsD xs = some ns → RDs K m G xs vs → vs = ns.map V.bl
  | [], _, _, e, l => by cases e; cases l; rfl
  | .bl i :: r, ns, _, e, l => by
    have e : (boolsD r).map (i :: ·) = some ns := e
    cases q : boolsD r with
    | none => rw [q] at e; cases e
    | some ms =>
      rw [q] at e
      cases e
      cases l with
      | cons p l => cases p; rw [boolsD_ok q l]; rfl
  | .non :: _, _, _, e, _ => by cases e
  | .int _ :: _, _, _, e, _ => by cases e
  | .str _ :: _, _, _, e, _ => by cases e
  | .tup _ :: _, _, _, e, _ => by cases e
  | .fl _ :: _, _, _, e, _ => by cases e
  | .sc _ :: _, _, _, e, _ => by cases e
  | .ref _ :: _, _, _, e, _ => by cases e

def biVal : Bi → Value
  | .len => .builtin "len" | .tuple => .type "tuple" | .list => .type "list" | .sorted => .builtin "sorted" | .sum => .builtin "sum" | .all => .builtin "all" | .any => .builtin "any"
  | .abs => .builtin "abs" | .max => .builtin "max" | .min => .builtin "min" | .int => .type "int" | .str => .type "str" | .repr => .builtin "repr"

theorem map_some {α β : Type} {o : Option α} {f : α → β} {b : β} (e : o.map f = some b) : ∃ a, o = some a ∧ f a = b := by
  cases o with
  | none => cases e
  | some a => exact ⟨a, rfl, Option.some.inj e⟩
theorem bind_some {α β : Type} {o : Option α} {f : α → Option β} {b : β} (e : o.bind f = some b) : ∃ a, o = some a ∧ f a = some b := by
  cases o with
  | none => cases e
  | some a => exact ⟨a, rfl, e⟩
theorem sortOp_ok {xs ys : List D} (e : sortOp xs = some ys) : D.pures xs = true ∧ sortable (D.ps xs) = true ∧ ys = sortD xs := by
  unfold sortOp at e
  obtain ⟨h1, h2⟩ := if_some e
  obtain ⟨h3, h4⟩ := ba h1
  exact ⟨h3, h4, h2.symm⟩

theorem bi_ok (hc : X.calm = true) (hu : X.A.units + 65 < cLine) {b : Bi} {xs : List RV} {vs : List V} (e : biOp b xs h = some z) (s : Sub G H) (r : Rel X.K m h G) (q : RRs X.K H0 m G H xs vs) (t : Then X m G H h z Q) :
    ∃ f, CallR X (biVal b) f ∧ f vs H Q := by
  unfold biOp at e
  split at e
  · obtain ⟨h1, h2⟩ := if_some e
    subst h2
    cases q with | cons q l => cases l; cases RD.str_of q; exact ⟨_, call_len_str, _, rfl, by rw [← line_eq]; exact h1, t.d s r (.int _)⟩
  · rename_i n
    cases q with | cons q l => ?_
    cases l
    obtain ⟨a, rfl, ha⟩ := RD.ref_of q
    cases w : h[n]? with
    | none => rw [w] at e; cases e
    | some o =>
      rw [w] at e
      cases o with
      | lst ys =>
        cases e
        obtain ⟨ws, g, l⟩ := r.lst w ha
        refine ⟨_, call_len_seq, a, ws, rfl, .inl (SqL.of (s _ _ g)), ?_⟩
        rw [← l.length]
        exact t.d s r (.int _)
      | dct kvs =>
        cases e
        obtain ⟨ws, g, l⟩ := r.dct w ha
        refine ⟨_, call_lenD, a, ws, rfl, s _ _ g, ?_⟩
        rw [← l.length]
        exact t.d s r (.int _)
  · obtain ⟨ys, e1, e2⟩ := map_some e
    subst e2
    cases q with | cons q l => ?_
    cases l
    obtain ⟨a, ws, rfl, hq, l⟩ := RR.seq s r q e1
    refine ⟨_, call_len_seq, a, ws, rfl, hq.elim (fun z => .inl z) (fun z => .inr (SqT.sub s z)), ?_⟩
    rw [← l.length]
    exact t.d s r (.int _)
  · obtain ⟨ys, e1, e2⟩ := map_some e
    subst e2
    cases q with | cons q l => ?_
    cases l
    obtain ⟨a, ws, rfl, hq, l⟩ := RR.seq s r q e1
    refine ⟨_, call_tuple_of, a, ws, rfl, ?_⟩
    rcases hq with hq | hq
    · exact .inl ⟨hq, fun p n => t.tup s r l n⟩
    · exact .inr ⟨SqT.sub s hq, t.d s r (.tup hq l)⟩
  · obtain ⟨ys, e1, e2⟩ := map_some e
    subst e2
    cases q with | cons q l => ?_
    cases l
    obtain ⟨a, ws, rfl, hq, l⟩ := RR.seq s r q e1
    exact ⟨_, call_list_of, a, ws, rfl, hq.elim (fun z => .inl z) (fun z => .inr (SqT.sub s z)), fun p n => t.lst s r l n⟩
  · obtain ⟨ys, e1, e2⟩ := map_some e
    subst e2
    obtain ⟨zs, e3, e4⟩ := bind_some e1
    obtain ⟨k1, k2, k3⟩ := sortOp_ok e4
    subst k3
    cases q with | cons q l => ?_
    cases l
    obtain ⟨a, ws, rfl, hq, l⟩ := RR.seq s r q e3
    exact ⟨_, cr_sortX hu, a, ws, zs, m, G, rfl, hq.imp id (fun q => SqT.sub s q), s, l, k1, k2, fun us p l2 n => t.lst s r l2 n⟩
  · obtain ⟨ns, e1, e2⟩ := map_some e
    subst e2
    obtain ⟨zs, e3, e4⟩ := bind_some e1
    cases q with | cons q l => ?_
    cases l
    obtain ⟨a, ws, rfl, hq, l⟩ := RR.lisc s r q e3
    have ew := intsD_ok e4 l
    subst ew
    exact ⟨_, cr_sum hc, a, ns, rfl, hq, t.d s r (.int _)⟩
  · obtain ⟨ns, e1, e2⟩ := map_some e
    subst e2
    obtain ⟨zs, e3, e4⟩ := bind_some e1
    cases q with | cons q l => ?_
    cases l
    obtain ⟨a, ws, rfl, hq, l⟩ := RR.lisc s r q e3
    have ew := boolsD_ok e4 l
    subst ew
    exact ⟨_, cr_all hc, a, ns, rfl, hq, t.d s r (.bl _)⟩
  · obtain ⟨ns, e1, e2⟩ := map_some e
    subst e2
    obtain ⟨zs, e3, e4⟩ := bind_some e1
    cases q with | cons q l => ?_
    cases l
    obtain ⟨a, ws, rfl, hq, l⟩ := RR.lisc s r q e3
    have ew := boolsD_ok e4 l
    subst ew
    exact ⟨_, cr_any hc, a, ns, rfl, hq, t.d s r (.bl _)⟩
  · cases e
    cases q with | cons q l => cases l; cases RD.int_of q; exact ⟨_, call_abs, _, rfl, t.d s r (.int _)⟩
  · cases e
    cases q with | cons q l => cases l with | cons q2 l => cases l; cases RD.int_of q; cases RD.int_of q2; exact ⟨_, call_max2 hc, _, _, rfl, t.d s r (.int _)⟩
  · cases e
    cases q with | cons q l => cases l with | cons q2 l => cases l; cases RD.int_of q; cases RD.int_of q2; exact ⟨_, call_min2 hc, _, _, rfl, t.d s r (.int _)⟩
  · cases e
    cases q with | cons q l => cases l; cases RD.int_of q; exact ⟨_, call_int1, .inl ⟨_, rfl, t.d s r (.int _)⟩⟩
  · obtain ⟨h1, h2⟩ := if_some e
    subst h2
    cases q with | cons q l => cases l; cases RD.int_of q; exact ⟨_, call_str_int, _, rfl, h1, t.d s r (.str _)⟩
  · cases e
    cases q with | cons q l => cases l; cases RD.str_of q; exact ⟨_, SkE.call_str_str, _, rfl, t.d s r (.str _)⟩
  · cases e

/-! ### objects that change -/
theorem Stp.write (s : Sub G H) {a : Addr} (ha : a ∈ m) (o : HO) (e : ∃ u, G a = some u) : Stp m G H m (upd G a o) (upd H a o) := by
  refine ⟨s, s.upd a o, ⟨[], by simp⟩, fun b h1 h2 => absurd h1 h2, fun b u e n => ?_, fun b u e n => ?_, fun b u eb => ?_, fun b hb ⟨u, eb⟩ => ?_⟩
  · rw [upd_ne (fun z : b = a => n (by rw [z]; exact ha))]; exact e
  · rw [upd_ne (fun z : b = a => n (by rw [z]; exact ha))]; exact e
  · by_cases hb : b = a
    · subst hb; exact .inl e
    · rw [upd_ne hb] at eb; exact .inl ⟨u, eb⟩
  · by_cases hb2 : b = a
    · subst hb2; exact ⟨o, upd_same⟩
    · exact ⟨u, by rw [upd_ne hb2]; exact eb⟩
theorem nodup_get {m : List Addr} (nd : m.Nodup) {i j : Nat} {a : Addr} (h1 : m[i]? = some a) (h2 : m[j]? = some a) : i = j := by
  obtain ⟨l1, e1⟩ := List.getElem?_eq_some_iff.mp h1
  obtain ⟨l2, e2⟩ := List.getElem?_eq_some_iff.mp h2
  have nd' := List.pairwise_iff_getElem.mp nd
  rcases Nat.lt_trichotomy i j with q | q | q
  · exact absurd (e1.trans e2.symm) (nd' i j l1 l2 q)
  · exact q
  · exact absurd (e2.trans e1.symm) (nd' j i l2 l1 q)
theorem Rel.write (s : Sub G H) (r : Rel K m h G) {n : Nat} {a : Addr} {o : O} {u : HO} (ha : m[n]? = some a) (hn : n < h.length)
    (new : ∀ K' : Unit, RO K m (upd G a u) a o) : Rel K m (h.set n o) (upd G a u) := by
  have hm := List.mem_of_getElem? ha
  have hG : ∃ v, G a = some v := by rcases r.kind hm with ⟨_, e⟩ | ⟨_, e⟩ <;> exact ⟨_, e⟩
  have st := Stp.write s hm u hG
  refine ⟨by rw [List.length_set]; exact r.len, r.nd, fun k o' b h1 h2 => ?_⟩
  by_cases hk : k = n
  · subst hk
    rw [ha] at h2; cases h2
    rw [List.getElem?_set_self hn] at h1; cases h1
    exact new ()
  · rw [List.getElem?_set_ne (Ne.symm hk)] at h1
    have hb : b ≠ a := fun z => hk (nodup_get r.nd h2 (z ▸ ha))
    have q := r.obj k o' b h1 h2
    cases o' with
    | lst xs => obtain ⟨vs, e, l⟩ := q; exact ⟨vs, by rw [upd_ne hb]; exact e, l.step r st⟩
    | dct xs => obtain ⟨vs, e, l⟩ := q; exact ⟨vs, by rw [upd_ne hb]; exact e, l.step r st⟩
/-- what follows once an object has changed -/
abbrev ThenH (X : Cx) (m : List Addr) (G H : Hp) (h' : Hh) (z : RV) (Q : VK) : Prop := ∀ m' G' H', Stp m G H m' G' H' → Rel X.K m' h' G' → ∀ v, RR X.K H m' G' H' z v → Q v H'
theorem ThenH.lst {n : Nat} {a : Addr} {ys : List D} {ws : List V} {d : D} {v : V} {zs : List D} (t : ThenH X m G H (h.set n (.lst ys)) (.d d) Q) (s : Sub G H) (r : Rel X.K m h G) (e : h[n]? = some (.lst zs)) (ha : m[n]? = some a) (l : RDs X.K m G ys ws) (q : RD X.K m G d v) : Q v (upd H a (.lst ws)) := by
  have hm := List.mem_of_getElem? ha
  have hG : ∃ v, G a = some v := by rcases r.kind hm with ⟨_, e⟩ | ⟨_, e⟩ <;> exact ⟨_, e⟩
  have st := Stp.write s hm (.lst ws) hG
  exact t m _ _ st (r.write s ha (List.getElem?_eq_some_iff.mp e).1 fun _ => ⟨ws, upd_same, l.step r st⟩) _ (q.step r st)

def mtId : Mt → String
  | .append => "list.append" | .pop => "list.pop" | .extend => "list.extend" | _ => ""
theorem mt_ok {k : Mt} {ds : List D} {vs : List V} (e : mtOp k x ds h = some (z, h')) (s : Sub G H) (r : Rel X.K m h G) (q : RR X.K H0 m G H x vx) (l : RDs X.K m G ds vs) (t : ThenH X m G H h' z Q) :
    tyV X.K "list" vx H ∧ ∃ f, MtR X (mtId k) f ∧ f vx vs H Q := by
  unfold mtOp at e
  split at e
  · rename_i n d
    obtain ⟨a, rfl, ha⟩ := RD.ref_of q
    cases w : h[n]? with
    | none => rw [w] at e; cases e
    | some o =>
      rw [w] at e
      cases o with
      | dct _ => cases e
      | lst ys =>
        obtain ⟨h1, h2⟩ := if_some e
        cases h2
        obtain ⟨ws, g, lw⟩ := r.lst w ha
        cases l with | cons p l => ?_
        cases l
        refine ⟨.inl ⟨rfl, ws, SqL.of (s _ _ g)⟩, _, mt_append, a, ws, _, rfl, rfl, s _ _ g, by rw [← lw.length, ← line_eq]; exact h1, ?_⟩
        exact ThenH.lst t s r w ha (lw.app (.cons p .nil)) .non
  · rename_i n
    obtain ⟨a, rfl, ha⟩ := RD.ref_of q
    cases w : h[n]? with
    | none => rw [w] at e; cases e
    | some o =>
      rw [w] at e
      cases o with
      | dct _ => cases e
      | lst ys =>
        obtain ⟨y, h1, h2⟩ := map_some e
        cases h2
        obtain ⟨ws, g, lw⟩ := r.lst w ha
        cases l
        obtain ⟨v, e1, q1⟩ := lw.get h1
        refine ⟨.inl ⟨rfl, ws, SqL.of (s _ _ g)⟩, _, mt_pop, a, ws, v, rfl, rfl, s _ _ g, by rw [← lw.length]; exact e1, ?_⟩
        exact ThenH.lst t s r w ha lw.dropLast q1
  · rename_i n zs
    obtain ⟨a, rfl, ha⟩ := RD.ref_of q
    cases w : h[n]? with
    | none => rw [w] at e; cases e
    | some o =>
      rw [w] at e
      cases o with
      | dct _ => cases e
      | lst ys =>
        obtain ⟨h1, h2⟩ := if_some e
        cases h2
        obtain ⟨ws, g, lw⟩ := r.lst w ha
        cases l with | cons p l => ?_
        cases l
        obtain ⟨b, us, rfl, hb, _, lu⟩ := RD.fl_of p
        refine ⟨.inl ⟨rfl, ws, SqL.of (s _ _ g)⟩, _, mt_extend, a, b, ws, us, rfl, rfl, s _ _ g, s _ _ hb, by rw [← lw.length, ← lu.length, ← line_eq]; exact h1, ?_⟩
        exact ThenH.lst t s r w ha (lw.app lu) .non
  · cases e
end
end Cw
end

section
set_option Elab.async false
set_option linter.all false
set_option maxRecDepth 100000
set_option maxHeartbeats 4000000
/-! Cw8: calls of the text's defs. -/
namespace Cw
open PySem PySem.Spec PyProof.Rows L2

/-! ### a call by data alone -/
section
variable {X : Cx} {c : Cs} {m m' m2 : List Addr} {G H G' H' G2 H2 H0 H1 Gc Gd : Hp} {E : WE3} {h h' : Hh} {Q : VK} {K : PySem.W.Frag}
/-- without the objects at m -/
def hid (m : List Addr) (G : Hp) : Hp := fun a => if a ∈ m then none else G a
theorem hid_in {a : Addr} (h : a ∈ m) : hid m G a = none := if_pos h
theorem hid_out {a : Addr} (h : a ∉ m) : hid m G a = G a := if_neg h
theorem hid_some {a : Addr} {o : HO} (e : hid m G a = some o) : a ∉ m ∧ G a = some o := by
  by_cases h : a ∈ m
  · rw [hid_in h] at e; cases e
  · rw [hid_out h] at e; exact ⟨h, e⟩
theorem hid_sub (s : Sub G H) : Sub (hid m G) H := fun a o e => s a o (hid_some e).2
mutual
theorem RD.hid (r : Rel K m h G) : ∀ {d : D} {v : V}, RD K m G d v → d.pure = true → RD K [] (hid m G) d v
  | _, _, .non, _ => .non
  | _, _, .bl b, _ => .bl b
  | _, _, .int i, _ => .int i
  | _, _, .str x, _ => .str x
  | _, _, .tup q l, p => by
    refine .tup ?_ (RDs.hid r l p)
    rcases q with q | q
    · have n := r.tupNot q
      exact .inl (q.elim (fun e => .inl (by rw [hid_out n]; exact e)) fun ⟨o, e⟩ => .inr ⟨o, by rw [hid_out n]; exact e⟩)
    · exact .inr q
  | _, _, .fl q n l, p => .fl (by rw [hid_out n]; exact q) (by simp) (RDs.hid r l p)
  | _, _, .sc q l, p => by
    refine .sc ?_ (RDs.hid r l p)
    rcases q with ⟨o, e⟩ | q | ⟨e, n⟩
    · exact .inl ⟨o, by rw [hid_out (r.frzNot e)]; exact e⟩
    · exact .inr (.inl q)
    · exact .inr (.inr ⟨by rw [hid_out n]; exact e, by simp⟩)
  | _, _, .ref _, p => by cases p
theorem RDs.hid (r : Rel K m h G) : ∀ {d : List D} {v : List V}, RDs K m G d v → D.pures d = true → RDs K [] (hid m G) d v
  | _, _, .nil, _ => .nil
  | _, _, .cons q l, p => by
    obtain ⟨p1, p2⟩ := ba (show (D.pure _ && D.pures _) = true from p)
    exact .cons (RD.hid r q p1) (RDs.hid r l p2)
end
theorem rel_nil : Rel K [] [] G := ⟨rfl, List.nodup_nil, fun n o a h _ => by simp at h⟩
/-- the heap behind it: ours, and what the callee shows, without its own objects -/
def mrg (m m' : List Addr) (G Gd : Hp) : Hp := fun a => if a ∈ m then G a else if a ∈ m' then none else Gd a
theorem mrg_in {a : Addr} (h : a ∈ m) : mrg m m' G Gd a = G a := if_pos h
theorem mrg_out {a : Addr} (h : a ∉ m) (h' : a ∉ m') : mrg m m' G Gd a = Gd a := by unfold mrg; rw [if_neg h, if_neg h']
theorem mrg_gone {a : Addr} (h : a ∉ m) (h' : a ∈ m') : mrg m m' G Gd a = none := by unfold mrg; rw [if_neg h, if_pos h']
theorem mrg_some {a : Addr} {o : HO} (e : mrg m m' G Gd a = some o) : (a ∈ m ∧ G a = some o) ∨ (a ∉ m ∧ a ∉ m' ∧ Gd a = some o) := by
  by_cases h : a ∈ m
  · rw [mrg_in h] at e; exact .inl ⟨h, e⟩
  · by_cases h' : a ∈ m'
    · rw [mrg_gone h h'] at e; cases e
    · rw [mrg_out h h'] at e; exact .inr ⟨h, h', e⟩
/-- what the callee sees is none of ours -/
theorem seen_out (r : Rel K m h G) (s : Sub G H) (st : Stp [] (hid m G) H m' Gd H') {a : Addr} {o : HO} (e : Gd a = some o) : a ∉ m := fun ha => by
  rcases st.seen a o e with ⟨u, q⟩ | q
  · rw [hid_in ha] at q; cases q
  · rcases r.kind ha with ⟨_, z⟩ | ⟨_, z⟩ <;> · rw [s a _ z] at q; cases q
mutual
theorem RD.back (r2 : Rel K m' h' Gd) (out : ∀ a o, Gd a = some o → a ∉ m) : ∀ {d : D} {v : V}, RD K m' Gd d v → d.pure = true → RD K m (mrg m m' G Gd) d v
  | _, _, .non, _ => .non
  | _, _, .bl b, _ => .bl b
  | _, _, .int i, _ => .int i
  | _, _, .str x, _ => .str x
  | _, _, .tup q l, p => by
    refine .tup ?_ (RDs.back r2 out l p)
    rcases q with e | q
    · have n := r2.tupNot e
      rcases e with e | ⟨o, e⟩
      · exact .inl (.inl (by rw [mrg_out (out _ _ e) n]; exact e))
      · exact .inl (.inr ⟨o, by rw [mrg_out (out _ _ e) n]; exact e⟩)
    · exact .inr q
  | _, _, .fl q n l, p => .fl (by rw [mrg_out (out _ _ q) n]; exact q) (out _ _ q) (RDs.back r2 out l p)
  | _, _, .sc q l, p => by
    refine .sc ?_ (RDs.back r2 out l p)
    rcases q with ⟨o, e⟩ | q | ⟨e, n⟩
    · exact .inl ⟨o, by rw [mrg_out (out _ _ e) (r2.frzNot e)]; exact e⟩
    · exact .inr (.inl q)
    · exact .inr (.inr ⟨by rw [mrg_out (out _ _ e) n]; exact e, out _ _ e⟩)
  | _, _, .ref _, p => by cases p
theorem RDs.back (r2 : Rel K m' h' Gd) (out : ∀ a o, Gd a = some o → a ∉ m) : ∀ {d : List D} {v : List V}, RDs K m' Gd d v → D.pures d = true → RDs K m (mrg m m' G Gd) d v
  | _, _, .nil, _ => .nil
  | _, _, .cons q l, p => by
    obtain ⟨p1, p2⟩ := ba (show (D.pure _ && D.pures _) = true from p)
    exact .cons (RD.back r2 out q p1) (RDs.back r2 out l p2)
end
theorem Stp.mrg (r : Rel K m h G) (s : Sub G H) (st : Stp [] (hid m G) H m' Gd H') : Stp m G H m (mrg m m' G Gd) H' := by
  refine ⟨s, fun a o e => ?_, ⟨[], by simp⟩, fun a h1 h2 => absurd h1 h2, fun a o e n => ?_, fun a o e _ => st.keepH a o e (by simp), fun a o e => ?_, fun a _ ⟨o, e⟩ => ⟨o, st.keepH a o e (by simp)⟩⟩
  · rcases mrg_some e with ⟨_, e⟩ | ⟨_, _, e⟩
    · exact st.keepH a o (s a o e) (by simp)
    · exact st.sub2 a o e
  · have e1 : Gd a = some o := st.keepG a o (by rw [hid_out n]; exact e) (by simp)
    have n2 : a ∉ m' := fun ha => by have z := st.new a ha (by simp); rw [s a o e] at z; cases z
    rw [mrg_out n n2]; exact e1
  · rcases mrg_some e with ⟨_, e⟩ | ⟨_, _, e⟩
    · exact .inl ⟨o, e⟩
    · rcases st.seen a o e with ⟨u, q⟩ | q
      · exact .inl ⟨u, (hid_some q).2⟩
      · exact .inr q
theorem Rel.mrg (r : Rel K m h G) (s : Sub G H) (st : Stp [] (hid m G) H m' Gd H') : Rel K m h (mrg m m' G Gd) := r.step (Stp.mrg r s st) fun a o ha e => by rw [mrg_in ha]; exact e
theorem RR.unbox (r : Rel K m h G) (s : Sub G H) (st : Stp [] (hid m G) H m' Gd H') (r2 : Rel K m' h' Gd) {rv rv' : RV} {v : V} (q : RR K H m' Gd H' rv v) (e : unbox rv h' = some rv') : RR K H m (Cw.mrg m m' G Gd) H' rv' v := by
  have out : ∀ a o, Gd a = some o → a ∉ m := fun a o e => seen_out r s st e
  have plain : ∀ d : D, (if d.pure then some (RV.d d) else none) = some rv' → RD K m' Gd d v → RR K H m (Cw.mrg m m' G Gd) H' rv' v := fun d e q => by
    obtain ⟨h1, h2⟩ := if_some e
    subst h2
    exact q.back r2 out h1
  cases rv with
  | d d =>
    cases d with
    | ref n =>
      have e' : (match h'[n]? with | some (.lst xs) => if D.pures xs then some (RV.lst xs) else none | _ => none) = some rv' := e
      obtain ⟨a, rfl, ha⟩ := RD.ref_of q
      cases z : h'[n]? with
      | none => rw [z] at e'; cases e'
      | some o =>
        rw [z] at e'
        cases o with
        | dct _ => cases e'
        | lst xs =>
          obtain ⟨h1, h2⟩ := if_some e'
          subst h2
          obtain ⟨vs, g, l⟩ := r2.lst z ha
          have hm := List.mem_of_getElem? ha
          exact ⟨a, vs, rfl, st.sub2 _ _ g, mrg_gone (out _ _ g) hm, out _ _ g, st.new a hm (by simp), l.back r2 out h1⟩
    | non => exact plain .non e q
    | bl b => exact plain (.bl b) e q
    | int i => exact plain (.int i) e q
    | str z => exact plain (.str z) e q
    | tup z => exact plain (.tup z) e q
    | fl z => exact plain (.fl z) e q
    | sc z => exact plain (.sc z) e q
  | lst xs =>
    obtain ⟨h1, h2⟩ := if_some (show (if D.pures xs then some (RV.lst xs) else none) = some rv' from e)
    subst h2
    obtain ⟨a, vs, h3, eh, g, n, f, l⟩ := q
    have nm : a ∉ m := fun ha => by
      rcases r.kind ha with ⟨_, z⟩ | ⟨_, z⟩ <;> · rw [s a _ z] at f; cases f
    exact ⟨a, vs, h3, eh, by rw [mrg_out nm n]; exact g, nm, f, l.back r2 out h1⟩
  | dct _ => cases e

/-! ### what a def promises -/
section
variable (c : Cs) (tb : Tb)
def spF (K : PySem.W.Frag) (n f : Nat) : Sp := fun vs H Q E => ∃ (m : List Addr) (G : Hp) (h : Hh) (ds : List D), Rel K m h G ∧ Sub G H ∧ RDs K m G ds vs ∧
  Good c K m G H E (run tb n f ds h) fun rv m' G' H' => ∀ v, RR K H m' G' H' rv v → Q v H'
end
theorem call_ok {tb : Tb} {n f : Nat} {md : Bool} {ds : List D} {vs : List V} (r : Rel K m h G) (s : Sub G H) (l : RDs K m G ds vs)
    (g : Good c K m G H E (callOp (runB tb n) md f ds h) fun rv m' G' H' => ∀ v, RR K H m' G' H' rv v → Q v H') : spF c tb K n f vs H Q E := by
  unfold callOp at g
  cases md with
  | true => exact ⟨m, G, h, ds, r, s, l, g⟩
  | false =>
    rw [if_neg Bool.false_ne_true] at g
    by_cases hp : D.pures ds = true
    · rw [if_pos hp] at g
      have g : Good c K m G H E (match run tb n f ds [] with
        | .ok rv h1 => R.ofO (unbox rv h1) h
        | .exc x _ => if D.pures x.as then R.exc x h else R.stuck
        | .stuck => .stuck) fun rv m' G' H' => ∀ v, RR K H m' G' H' rv v → Q v H' := g
      refine ⟨[], hid m G, [], ds, rel_nil, hid_sub s, l.hid r hp, ?_⟩
      cases q : run tb n f ds [] with
      | ok rv h1 =>
        rw [q] at g
        intro m' Gd H' st r2 v qv
        obtain ⟨rv', e, t⟩ := Good.ofO g
        exact t m _ _ (Stp.mrg r s st) (Rel.mrg r s st) v (RR.unbox r s st r2 qv e)
      | exc x h1 =>
        rw [q] at g
        intro m' Gd H' C d st r2 xa
        have g : Good c K m G H E (if D.pures x.as then R.exc x h else R.stuck) fun rv m' G' H' => ∀ v, RR K H m' G' H' rv v → Q v H' := g
        by_cases hx : D.pures x.as = true
        · rw [if_pos hx] at g
          have out : ∀ a o, Gd a = some o → a ∉ m := fun a o e => seen_out r s st e
          refine g m _ _ C d (Stp.mrg r s st) (Rel.mrg r s st) ⟨xa.cl, xa.len, ?_⟩
          rcases xa.fs with e | ⟨dx, fs, e1, e2, e3⟩
          · exact .inl e
          · refine .inr ⟨dx, fs, e1, by rw [mrg_out (out _ _ e2) (fun ha => by rcases r2.kind ha with ⟨_, z⟩ | ⟨_, z⟩ <;> · rw [e2] at z; cases z)]; exact e2, fun i f y h1 h2 => ?_⟩
            obtain ⟨w, k1, k2⟩ := e3 i f y h1 h2
            exact ⟨w, k1, k2.back r2 out (pures_mem hx y (List.mem_of_getElem? h2))⟩
        · rw [if_neg hx] at g; exact g.elim
      | stuck => rw [q] at g; exact g.elim
    · rw [if_neg hp] at g; exact g.elim
end

/-! ### a def's promise where no repr is under way -/
/-- as FnOk, of calls under which no container is being shown -/
structure FnG (P : Program) (w : World) (K : PySem.W.Frag) (mg : Str → Option Value) (base : Heap) (CX : CXT) (k : Nat) (f : Addr) (fd : FuncData) (ps : List Str) (sp : Sp) : Prop where
  len : ∀ vs H Q E, sp vs H Q E → vs.length = ps.length
  run : ∀ (A : Around) (outer : List Env) (s : Shared) (H : Hp) (args : Args) (us : List Value) (vs : List V) (Q : VK) (E : XK), Room k A → A.guards = some [] → Env0 P w K mg base A outer s H → BindsTo s fd args (ps.zip us) → Vals vs us → sp vs H Q E →
    codeAny (model P w) A (.call (.ref f) args) (CR CX outer P w H s Q E) s
theorem guards_deeper {A : Around} (g : A.guards = some []) (env : Env) : (A.deeper env).guards = some [] := g
/-- a def by its body -/
theorem fng_of {CX : CXT} {P : Program} {w : World} {K : PySem.W.Frag} {mg : Str → Option Value} {base : Heap} {k : Nat} {f : Addr} {name qual : Str} {params : Arguments} {body : List Stmt} {scope : Scope} {dV kV doc pm cdv ct oc : Value} {an od : Option Addr}
    {osl : Array (Option Value)} {N ps : List Str} {sp : Sp} (lk : K.lookup f = some ⟨oc, od, .func (PySem.W.fnOf name qual params body scope dV kV doc pm an cdv ct), osl⟩) (hcd : PySem.W.codeIn K cdv qual = true) (S : FnScope N ps scope)
    (len : ∀ vs H Q E, sp vs H Q E → vs.length = ps.length)
    (hbody : ∀ (A : Around) (outer : List Env) (s : Shared) (H : Hp) (vs : List V) (Q : VK) (E : XK), Room k (A.deeper (envOfC qual scope s.heap.objs.size f cdv)) → A.guards = some [] → sp vs H Q E →
      bSs (cxOf CX P w K mg base N qual scope f cdv A outer s H E) body { nx := fun _ H' => Q .non H', rt := Q } (L2.start N vs) H) :
    FnG P w K mg base CX (k + 1) f (PySem.W.fnOf name qual params body scope dV kV doc pm an cdv ct) ps sp := by
  refine ⟨len, fun A outer s H args us vs Q E hr gd e0 hb r hsp => ?_⟩
  have KX : K.In s.heap := e0.mod.kin.keeps fun b o e => (e0.bs b o e).1
  have lim : s.heap.NoLimit := e0.mod.nolimit.keeps fun b o e => (e0.bs b o e).1
  refine codeAny_call_function hr.depth (KX _ _ lk) rfl S.co S.gen rfl (PySem.W.codeRec_of KX hcd) (hb _ _ _ _ ?_)
  refine wpAny_newFunctionEnv_cells S.kind (fun y hy => ?_) fun env he s1 x => ?_
  · rcases S.par y.1 (List.of_mem_zip hy).1 with q | q
    · exact .inl q
    · exact .inr ⟨q, PySem.W.cellsFrom_some _ _ _ (.inl q)⟩
  subst he
  refine ⟨lim.keeps x.toInCall.keep, codeAny_func ?_⟩
  have I : Inv (cxOf CX P w K mg base N qual scope f cdv A outer s H E) [] (L2.start N vs) H s1 := inv_start S hr.hd e0 (len _ _ _ _ hsp) r x
  refine wpAny_mono (pssB.run [] s1 (L2.start N vs) H _ I (hbody A outer s H vs Q E (hr.deeper _) gd hsp)) (fun fl s' hs => ?_) fun e s' hs => hs
  cases fl with
  | ret u => obtain ⟨v, σ', H', J, rv, q⟩ := hs; exact ⟨v, H', J.os, J.bare, J.base, J.hok, rv, q⟩
  | next => obtain ⟨σ', H', J, q⟩ := hs; exact ⟨.non, H', J.os, J.bare, J.base, J.hok, rfl, q⟩
  | brk => obtain ⟨_, _, _, q⟩ := hs; exact False.elim q
  | cont => obtain ⟨_, _, _, q⟩ := hs; exact False.elim q

/-! ### the rule -/
section
variable {X : Cx} {n : Nat} {f : Addr} {fd : FuncData} {ps ks : List Str} {sp : Sp} {W : WX} {x : Str} {p pos : Pos} {es : List Expr} {kws : List Keyword} {t tk : TA}
/-- the def at f, its parameters ps, no defaults: how it binds -/
def BindsAll (K : PySem.W.Frag) (fd : FuncData) (ps : List Str) : Prop := ∀ (s : Shared) (us ws : List Value), K.In s.heap → us.length + ws.length = ps.length → BindsTo s fd ⟨us, (ps.drop us.length).zip ws⟩ (ps.zip (us ++ ws))
theorem run_fnX {pins : List (Addr × Obj)} {σ : L2.St} {H : Hp} {s : Shared} {Q : VK} {us ws : List Value} {vs zs : List V} (F : FnG X.prog X.w X.K X.mg X.base (CX X.prog X.w) n f fd ps sp) (hr : Room n X.A) (gd : X.A.guards = some []) (hb : BindsAll X.K fd ps) (tk : Takes X W)
    (I : Inv X pins σ H s) (r : Vals vs us) (rz : Vals zs ws) (hk : ks = ps.drop us.length) (h : sp (vs ++ zs) H Q (fun C d H' => W C d σ H')) : wpAny (model X.prog X.w) X.A (call (.ref f) us (ks.zip ws)) (EP X pins σ Q) X.xe s := by
  have r2 := r.append rz
  have hl := F.len _ _ _ _ h
  rw [r2.length] at hl
  subst hk
  refine wpAny_call (codeAny_mono (F.run X.A X.stack s H ⟨us, (ps.drop us.length).zip ws⟩ (us ++ ws) (vs ++ zs) Q _ hr gd I.env0 (hb s us ws I.kIn (by rw [← hl, List.length_append])) r2 h) fun r s' hq => ?_)
  cases r with
  | error e => exact tk e s' (XE.of_call I (fun _ _ _ h => h) hq)
  | ok fl =>
    cases fl with
    | ret u => exact I.after hq
    | next => exact False.elim hq
    | brk => exact False.elim hq
    | cont => exact False.elim hq
def tCallX (sp : Sp) (W : WX) (N : Nat) (t tk : TA) : TE := fun σ H Q => t σ H fun vs H1 => vs.length = N ∧ tk σ H1 fun zs H2 => sp (vs ++ zs) H2 Q (fun C d H' => W C d σ H')
/-- f(e, .., k = v, ..) -/
theorem pe_callX {e : Expr} (F : FnG X.prog X.w X.K X.mg X.base (CX X.prog X.w) n f fd ps sp) (hr : Room n X.A) (gd : X.A.guards = some []) (hg : Gl X x) (hm : X.mg x = some (.ref f)) (hk : PySem.W.keepIn X.K (.ref f) = true) (hb : BindsAll X.K fd ps) (hx : Takes X W)
    (ha : PA X (e :: es) t) (hkw : PK X kws tk) (hall : (backToKw pos (keywordEach kws X.env)).all (·.1.isSome) = true) (hks : (backToKw pos (keywordEach kws X.env)).filterMap (·.1) = ps.drop (es.length + 1))
    (hdb : (x == ("__debug__" : Str)) = false) (he : starEach (e :: es) X.env = (false, eval e X.env) :: starEach es X.env)
    (hpl : ((backTo pos (starEach (e :: es) X.env)).any (·.1) || (backToKw pos (keywordEach kws X.env)).any (·.1.isNone)) = false) :
    PE X (.Call (.Name x p) (e :: es) kws pos) (tCallX sp W (es.length + 1) t tk) := by
  refine ⟨fun pins s σ H Q I h => ?_⟩
  refine wpAny_Call_Name_kw (ld_glob I hg hm ?_ hdb)
  refine PySem.W.callWith_KW (h₀ := X.base) I.ok.mod.kin hk hall (thn (ha.run pos pins s σ H _ I h) fun us s1 ⟨vs, H1, I1, r, hl, q⟩ => ?_) hpl he
  refine thn (hkw.run pos pins s1 σ H1 _ I1 q) fun ws s2 ⟨zs, H2, I2, rz, q2⟩ => ⟨I2.kIn, ?_⟩
  rw [hks]
  exact run_fnX F hr gd hb hx I2 r rz (by rw [← hl, r.length, List.nil_append]) q2
/-- f(k = v, ..), f() -/
theorem pe_callX0 (F : FnG X.prog X.w X.K X.mg X.base (CX X.prog X.w) n f fd ps sp) (hr : Room n X.A) (gd : X.A.guards = some []) (hg : Gl X x) (hm : X.mg x = some (.ref f)) (hk : PySem.W.keepIn X.K (.ref f) = true) (hb : BindsAll X.K fd ps) (hx : Takes X W)
    (hkw : PK X kws tk) (hall : (backToKw pos (keywordEach kws X.env)).all (·.1.isSome) = true) (hks : (backToKw pos (keywordEach kws X.env)).filterMap (·.1) = ps)
    (hdb : (x == ("__debug__" : Str)) = false) (hpl : ((backTo pos (starEach [] X.env)).any (·.1) || (backToKw pos (keywordEach kws X.env)).any (·.1.isNone)) = false) :
    PE X (.Call (.Name x p) [] kws pos) (fun σ H Q => tk σ H fun zs H2 => sp zs H2 Q (fun C d H' => W C d σ H')) := by
  refine ⟨fun pins s σ H Q I h => ?_⟩
  refine wpAny_Call_Name_kw (ld_glob I hg hm ?_ hdb)
  refine PySem.W.callWith_KW0 (h₀ := X.base) I.ok.mod.kin hk hall ?_ hpl
  refine thn (hkw.run pos pins s σ H _ I h) fun ws s2 ⟨zs, H2, I2, rz, q2⟩ => ⟨I2.kIn, ?_⟩
  rw [hks]
  exact run_fnX (us := []) (vs := []) F hr gd hb hx I2 .nil rz rfl q2
end
end Cw
end

section
set_option Elab.async false
set_option linter.all false
set_option maxRecDepth 100000
set_option maxHeartbeats 4000000
/-! Cw8x: what is known of the classes of exceptions. -/
namespace Cw
open PySem PySem.Spec PyProof.Rows L2
structure XcF (ck : Ck) (c : Cs) (P : Program) (K : PySem.W.Frag) (mg : Str → Option Value) : Prop where
  glo : ∀ p ∈ ck.cls, mg p.2 = some (.ref (c.cls p.1))
  mk1 : ∀ k x f, (k, x, [f]) ∈ ck.mks → mg x = some (.ref (c.cls k)) ∧ Cx1.Exc1 P K (c.cls k) f
  mk0 : ∀ k x, (k, x, []) ∈ ck.mks → mg x = some (.ref (c.cls k)) ∧ Cx1.Exc0 P K (c.cls k)
  fl : ∀ m ∈ ck.mks, c.fl m.1 = m.2.2
  nof : ∀ m ∈ ck.mks, ∀ f ∈ m.2.2, PySem.W.findIn K (.ref (c.cls m.1)) f = some none
  fx : ∀ m ∈ ck.mks, XfC K (c.cls m.1)
  at_ : ∀ p ∈ ck.cls, ExcC K (c.cls p.1) ∧ XfC K (c.cls p.1)
  sub : ∀ p ∈ ck.cls, ∀ q ∈ ck.cls, PySem.W.exmOne K (.ref (c.cls p.1)) (.ref (c.cls q.1)) = some (ck.sub.contains (p.1, q.1)) ∧ PySem.W.kitOne K (.ref (c.cls p.1)) (.ref (c.cls q.1)) = some (ck.sub.contains (p.1, q.1))
end Cw
end

section
set_option Elab.async false
set_option linter.all false
set_option maxRecDepth 100000
set_option maxHeartbeats 4000000
/-! Cw9: expressions. -/
namespace Cw
open PySem PySem.Spec PyProof.Rows L2

structure Env1 (ck : Ck) (c : Cs) (tb : Tb) (n : Nat) (X : Cx) (W : WX) : Prop where
  calm : X.calm = true
  room : Room (n + 1) X.A
  gd : X.A.guards = some []
  nd : X.N.Nodup
  takes : Takes X W
  free : ∀ x, ck.isFree x = true → X.mg x = none
  cons : ∀ x d, ck.isCon x d = true → ∃ u v, X.mg x = some u ∧ RelV v u ∧ ∀ m G, RD X.K m G d v
  fns : ∀ g x ps, (g, x, ps) ∈ ck.fns → ∃ fa fd, X.mg x = some (.ref fa) ∧ PySem.W.keepIn X.K (.ref fa) = true ∧ BindsAll X.K fd ps ∧ FnG X.prog X.w X.K X.mg X.base (CX X.prog X.w) (n + 1) fa fd ps (spF c tb X.K n g)
  xc : XcF ck c X.prog X.K X.mg

section
variable (ck : Ck) (c : Cs) (tb : Tb) (n : Nat)
def SE (e : I) : Prop := ∀ (X : Cx) (W : WX) (x : Expr) (sc : Scope), Env1 ck c tb n X W → X.env.scope = sc → mE ck X.N sc e x = true → ∀ (m : List Addr) (G H : Hp) (h : Hh) (σ : Sg) (t : L2.St) (Q : VK), Rel X.K m h G → Sub G H → RS X.K m G σ t →
  Good c X.K m G H (fun C d H' => W C d t H') (ev (runB tb n) e σ h) (fun rv m' G' H' => ∀ v, RR X.K H m' G' H' rv v → Q v H') → bE X x t H Q
def ST (e : I) : Prop := ∀ (X : Cx) (W : WX) (x : Expr) (sc : Scope), Env1 ck c tb n X W → X.env.scope = sc → mE ck X.N sc e x = true → ∀ (m : List Addr) (G H : Hp) (h : Hh) (σ : Sg) (t : L2.St) (Q : Bool → Hp → Prop), Rel X.K m h G → Sub G H → RS X.K m G σ t →
  Good c X.K m G H (fun C d H' => W C d t H') (ev (runB tb n) e σ h) (fun rv m' G' H' => ∃ b, rv = .d (.bl b) ∧ Q b H') → bT X x t H Q
def SEs (es : List I) : Prop := ∀ (X : Cx) (W : WX) (xs : List Expr) (sc : Scope), Env1 ck c tb n X W → X.env.scope = sc → mEs ck X.N sc es xs = true → ∀ (m : List Addr) (G H : Hp) (h : Hh) (σ : Sg) (t : L2.St) (Q : List V → Hp → Prop), Rel X.K m h G → Sub G H → RS X.K m G σ t →
  Good c X.K m G H (fun C d H' => W C d t H') (evs (runB tb n) es σ h) (fun ds m' G' H' => ∀ vs, RDs X.K m' G' ds vs → Q vs H') → bA X xs t H Q
def SRs (es : List I) : Prop := ∀ (X : Cx) (W : WX) (xs : List Expr) (sc : Scope), Env1 ck c tb n X W → X.env.scope = sc → mEs ck X.N sc es xs = true → ∀ (m : List Addr) (G H : Hp) (h : Hh) (σ : Sg) (t : L2.St) (Q : List V → Hp → Prop), Rel X.K m h G → Sub G H → RS X.K m G σ t →
  Good c X.K m G H (fun C d H' => W C d t H') (evr (runB tb n) es σ h) (fun ds m' G' H' => ∀ vs, RRs X.K H m' G' H' ds vs → Q vs H') → bA X xs t H Q
def SKs (es : List I) : Prop := ∀ (X : Cx) (W : WX) (ks : List Str) (xs : List Keyword) (sc : Scope), Env1 ck c tb n X W → X.env.scope = sc → mKs ck X.N sc ks es xs = true → ∀ (m : List Addr) (G H : Hp) (h : Hh) (σ : Sg) (t : L2.St) (Q : List V → Hp → Prop), Rel X.K m h G → Sub G H → RS X.K m G σ t →
  Good c X.K m G H (fun C d H' => W C d t H') (evs (runB tb n) es σ h) (fun ds m' G' H' => ∀ vs, RDs X.K m' G' ds vs → Q vs H') → bK X xs t H Q
end

section
variable {ck : Ck} {c : Cs} {tb : Tb} {n : Nat} {N : List Str} {sc : Scope}
theorem mE_plain : ∀ (e : I) {x : Expr}, mE ck N sc e x = true → isWith x = true
  | .mut e, x, h => mE_plain e (ba (show (plainTest x && mE ck N sc e x) = true from h)).2
  | .v _, x, h => by cases x <;> first | rfl | exact Bool.noConfusion (show false = true from h)
  | .c _, x, h => by cases x <;> first | rfl | exact Bool.noConfusion (show false = true from h)
  | .g _ _, x, h => by cases x <;> first | rfl | exact Bool.noConfusion (show false = true from h)
  | .no, x, h => by cases x <;> exact Bool.noConfusion (show false = true from h)
  | .tup _, x, h => by cases x <;> first | rfl | exact Bool.noConfusion (show false = true from h)
  | .lst _, x, h => by cases x <;> first | rfl | exact Bool.noConfusion (show false = true from h)
  | .dct _, x, h => by cases x <;> first | rfl | exact Bool.noConfusion (show false = true from h)
  | .lrg _ _, x, h => by cases x <;> first | rfl | exact Bool.noConfusion (show false = true from h)
  | .rcmp _ _ _, x, h => by cases x <;> first | rfl | exact Bool.noConfusion (show false = true from h)
  | .bin _ _ _, x, h => by cases x <;> first | rfl | exact Bool.noConfusion (show false = true from h)
  | .neg _, x, h => by cases x <;> first | rfl | exact Bool.noConfusion (show false = true from h)
  | .nt _, x, h => by cases x <;> first | rfl | exact Bool.noConfusion (show false = true from h)
  | .and _, x, h => by cases x <;> first | rfl | exact Bool.noConfusion (show false = true from h)
  | .or _, x, h => by cases x <;> first | rfl | exact Bool.noConfusion (show false = true from h)
  | .cmp _ _ _, x, h => by cases x <;> first | rfl | exact Bool.noConfusion (show false = true from h)
  | .chn _ _ _ _ _, x, h => by cases x <;> first | rfl | exact Bool.noConfusion (show false = true from h)
  | .chn3 _ _ _ _ _ _ _, x, h => by cases x <;> first | rfl | exact Bool.noConfusion (show false = true from h)
  | .ife _ _ _, x, h => by cases x <;> first | rfl | exact Bool.noConfusion (show false = true from h)
  | .ix _ _, x, h => by cases x <;> first | rfl | exact Bool.noConfusion (show false = true from h)
  | .sl _ _ _, x, h => by cases x <;> first | rfl | exact Bool.noConfusion (show false = true from h)
  | .rev _, x, h => by cases x <;> first | rfl | exact Bool.noConfusion (show false = true from h)
  | .call _ _ _ _ _ _, x, h => by cases x <;> first | rfl | exact Bool.noConfusion (show false = true from h)
  | .bi _ _, x, h => by cases x <;> first | rfl | exact Bool.noConfusion (show false = true from h)
  | .isi _ _, x, h => by cases x <;> first | rfl | exact Bool.noConfusion (show false = true from h)
  | .mth _ _ _, x, h => by cases x <;> first | rfl | exact Bool.noConfusion (show false = true from h)
  | .lc _ _ _ _ _, x, h => by cases x <;> first | rfl | exact Bool.noConfusion (show false = true from h)
  | .lc2 _ _ _ _ _ _ _, x, h => by cases x <;> first | rfl | exact Bool.noConfusion (show false = true from h)
  | .it _, x, h => by cases x <;> exact Bool.noConfusion (show false = true from h)
  | .rng _, x, h => by cases x <;> exact Bool.noConfusion (show false = true from h)
  | .enum _, x, h => by cases x <;> exact Bool.noConfusion (show false = true from h)
  | .zip _ _, x, h => by cases x <;> exact Bool.noConfusion (show false = true from h)
theorem star_of {x : Expr} {xs : List Expr} {env : Env} (h : isWith x = true) : starEach (x :: xs) env = (false, eval x env) :: starEach xs env := by
  cases x <;> first | rfl | cases h
theorem plain_star : ∀ {es : List I} {xs : List Expr} {env : Env}, mEs ck N sc es xs = true → (starEach xs env).any (·.1) = false
  | [], [], _, _ => rfl
  | e :: es, x :: xs, env, h => by
    obtain ⟨h1, h2⟩ := ba (show (mE ck N sc e x && mEs ck N sc es xs) = true from h)
    rw [star_of (mE_plain e h1)]
    exact plain_star h2
  | [], _ :: _, _, h => by cases h
  | _ :: _, [], _, h => by cases h
theorem mEs_len : ∀ {es : List I} {xs : List Expr}, mEs ck N sc es xs = true → es.length = xs.length
  | [], [], _ => rfl
  | e :: es, x :: xs, h => congrArg Nat.succ (mEs_len (ba (show (mE ck N sc e x && mEs ck N sc es xs) = true from h)).2)
  | [], _ :: _, h => by cases h
  | _ :: _, [], h => by cases h

/-! ### rows of expressions -/
theorem ses_nil : SEs ck c tb n [] := by
  intro X W xs sc EN es hm m G H h σ t Q r s rs g
  cases xs with
  | cons _ _ => cases hm
  | nil => exact ⟨_, pa_nil, g m G H (.refl s) r [] .nil⟩
theorem ses_cons {e : I} {es : List I} (he : SE ck c tb n e) (hs : SEs ck c tb n es) : SEs ck c tb n (e :: es) := by
  intro X W xs sc EN hsc hm m G H h σ t Q r s rs g
  cases xs with
  | nil => cases hm
  | cons x xs =>
    obtain ⟨h1, h2⟩ := ba (show (mE ck X.N sc e x && mEs ck X.N sc es xs) = true from hm)
    refine ⟨_, pa_cons peB paB (star_of (mE_plain e h1)), ?_⟩
    refine he X W x sc EN hsc h1 m G H h σ t _ r s rs (Good.mono (Good.bind s g) fun rv m1 G1 H1 s1 ⟨h', _, r1, _, g1⟩ v q => ?_)
    cases hd : rv.toD with
    | none => rw [hd] at g1; exact g1.elim
    | some d =>
      rw [hd] at g1
      obtain ⟨G2, s2, r2, q2, _⟩ := RR.toD s1 r1 q hd
      refine hs X W xs sc EN hsc h2 m1 G2 H1 h' σ t _ r2 s2.sub2 (rs.step r s2) (Good.mono (Good.bindL s2 g1) fun ds m3 G3 H3 s3 ⟨h'', _, r3, s03, g3⟩ vs l => ?_)
      exact g3 m3 G3 H3 s03 r3 (v :: vs) (.cons (q2.step r2 s3) l)
theorem srs_nil : SRs ck c tb n [] := by
  intro X W xs sc EN es hm m G H h σ t Q r s rs g
  cases xs with
  | cons _ _ => cases hm
  | nil => exact ⟨_, pa_nil, g m G H (.refl s) r [] .nil⟩
theorem srs_cons {e : I} {es : List I} (he : SE ck c tb n e) (hs : SRs ck c tb n es) : SRs ck c tb n (e :: es) := by
  intro X W xs sc EN hsc hm m G H h σ t Q r s rs g
  cases xs with
  | nil => cases hm
  | cons x xs =>
    obtain ⟨h1, h2⟩ := ba (show (mE ck X.N sc e x && mEs ck X.N sc es xs) = true from hm)
    refine ⟨_, pa_cons peB paB (star_of (mE_plain e h1)), ?_⟩
    refine he X W x sc EN hsc h1 m G H h σ t _ r s rs (Good.mono (Good.bind s g) fun rv m1 G1 H1 s1 ⟨h', _, r1, _, g1⟩ v q => ?_)
    refine hs X W xs sc EN hsc h2 m1 G1 H1 h' σ t _ r1 s1.sub2 (rs.step r s1) (Good.mono (Good.bindL s1 g1) fun ds m2 G2 H2 s2 ⟨h'', _, r2, s02, g2⟩ vs l => ?_)
    exact g2 m2 G2 H2 s02 r2 (v :: vs) (.cons (RR.step r1 s2 q) (RRs.early s1 l fun a ha => s2.mem ha))
theorem sks_nil : SKs ck c tb n [] := by
  intro X W ks xs sc EN es hm m G H h σ t Q r s rs g
  cases xs with
  | cons _ _ => cases ks <;> cases hm
  | nil => exact ⟨_, pk_nil, g m G H (.refl s) r [] .nil⟩
theorem sks_cons {e : I} {es : List I} (he : SE ck c tb n e) (hs : SKs ck c tb n es) : SKs ck c tb n (e :: es) := by
  intro X W ks xs sc EN hsc hm m G H h σ t Q r s rs g
  cases ks with
  | nil => cases xs <;> cases hm
  | cons k ks =>
  cases xs with
  | nil => cases hm
  | cons x xs =>
    obtain ⟨nm, x, p⟩ := x
    obtain ⟨h12, h2⟩ := ba (show ((decide (nm = some k) && mE ck X.N sc e x) && mKs ck X.N sc ks es xs) = true from hm)
    obtain ⟨_, h1⟩ := ba h12
    refine ⟨_, pk_cons peB pkB, ?_⟩
    refine he X W x sc EN hsc h1 m G H h σ t _ r s rs (Good.mono (Good.bind s g) fun rv m1 G1 H1 s1 ⟨h', _, r1, _, g1⟩ v q => ?_)
    cases hd : rv.toD with
    | none => rw [hd] at g1; exact g1.elim
    | some d =>
      rw [hd] at g1
      obtain ⟨G2, s2, r2, q2, _⟩ := RR.toD s1 r1 q hd
      refine hs X W ks xs sc EN hsc h2 m1 G2 H1 h' σ t _ r2 s2.sub2 (rs.step r s2) (Good.mono (Good.bindL s2 g1) fun ds m3 G3 H3 s3 ⟨h'', _, r3, s03, g3⟩ vs l => ?_)
      exact g3 m3 G3 H3 s03 r3 (v :: vs) (.cons (q2.step r2 s3) l)
end
end Cw
end

section
set_option Elab.async false
set_option linter.all false
set_option maxRecDepth 100000
set_option maxHeartbeats 4000000
/-! Cw10: expressions, kind by kind. -/
namespace Cw
open PySem PySem.Spec PyProof.Rows L2

section
variable {ck : Ck} {c : Cs} {tb : Tb} {n : Nat}
theorem Env1.units {X : Cx} {W : WX} (E : Env1 ck c tb n X W) : X.A.units + 66 < cLine := by have := E.room.un; omega

/-- the best reading of an operator -/
def bOp (X : Cx) (f : Value → Value → Sem Value) : R2 := fun x y H Q => ∃ r, OpR X f r ∧ r x y H Q
theorem opB {X : Cx} {f : Value → Value → Sem Value} : OpR X f (bOp X f) := fun pins s σ H x y v u Q I rx ry ⟨r, h, q⟩ => h pins s σ H x y v u Q I rx ry q
def bIx (X : Cx) : R2 := fun x y H Q => ∃ r, IxR X r ∧ r x y H Q
theorem ixB {X : Cx} : IxR X (bIx X) := fun value slice pins s σ H x y v u Q I rx ry ⟨r, h, q⟩ hs => h value slice pins s σ H x y v u Q I rx ry q hs
def bSl (X : Cx) : V → Option Int → Option Int → Hp → VK → Prop := fun x lo hi H Q => ∃ r, SlR X r ∧ r x lo hi H Q
theorem slB {X : Cx} : SlR X (bSl X) := fun pins s σ H x v vl vu lo hi sl Q I rx hs pl pu ⟨r, h, q⟩ => h pins s σ H x v vl vu lo hi sl Q I rx hs pl pu q
def bCall (X : Cx) (f : Value) : List V → Hp → VK → Prop := fun xs H Q => ∃ r, CallR X f r ∧ r xs H Q
theorem callB {X : Cx} {f : Value} : CallR X f (bCall X f) := fun pins s σ H xs us Q I rx ⟨r, h, q⟩ => h pins s σ H xs us Q I rx q
def bMt (X : Cx) (id : String) : V → List V → Hp → VK → Prop := fun x xs H Q => ∃ r, MtR X id r ∧ r x xs H Q
theorem mtB {X : Cx} {id : String} : MtR X id (bMt X id) := fun pins s σ H x xs v us Q I rx rs ⟨r, h, q⟩ => h pins s σ H x xs v us Q I rx rs q

theorem tru_neg {x : Str} {a : Str} (h : (!(x == a)) = true) : (x == a) = false := by simpa using h
theorem okName_dbg {x : Str} (h : okName x = true) : (x == ("__debug__" : Str)) = false := by
  obtain ⟨h1, _⟩ := ba h
  obtain ⟨h2, _⟩ := ba h1
  exact tru_neg h2
theorem okName_cd {x : Str} (h : okName x = true) : (x == ("__classdict__" : Str)) = false := by
  obtain ⟨h1, _⟩ := ba h
  obtain ⟨_, h2⟩ := ba h1
  exact tru_neg h2
theorem vis_of {sc : Scope} {x : Str} (h : vis sc x = true) : Vis sc x := by
  unfold vis at h
  unfold Vis
  split at h
  · rename_i e; exact .inl e
  · rename_i e; exact .inr (.inl e)
  · rename_i e; exact .inr (.inr e)
  · cases h
theorem gl_of {X : Cx} {sc : Scope} {x : Str} (e : X.env.scope = sc) (h : gl sc x = true) : Gl X x := by
  unfold gl at h
  split at h
  · rename_i q
    show X.env.scope.names.lookup x = _
    rw [e]; exact q
  · cases h

theorem se_v {i : Nat} : SE ck c tb n (.v i) := by
  intro X W x sc EN hsc hm m G H h σ t Q r s rs g
  cases x with
  | Name x pos =>
    obtain ⟨h12, h3⟩ := ba (show ((decide (X.N[i]? = some x) && vis sc x) && okName x) = true from hm)
    obtain ⟨h1, h2⟩ := ba h12
    have hv : Vis X.env.scope x := by rw [hsc]; exact vis_of h2
    refine ⟨_, pe_var (of_decide_eq_true h1) hv (okName_dbg h3) (okName_cd h3), ?_⟩
    have g : Good c X.K m G H (fun C d H' => W C d t H') (match σ[i]? with | some (some d) => R.ok (RV.d d) h | _ => R.stuck) (fun rv m' G' H' => ∀ v, RR X.K H m' G' H' rv v → Q v H') := g
    split at g
    · rename_i d e
      obtain ⟨v, e1, q⟩ := rs.get i d e
      exact ⟨v, e1, g m G H (.refl s) r v q⟩
    · exact g.elim
  | _ => exact Bool.noConfusion (show false = true from hm)

theorem se_c {d : D} : SE ck c tb n (.c d) := by
  intro X W x sc EN hsc hm m G H h σ t Q r s rs g
  cases x with
  | Constant cc j pos =>
    have g : ∀ v, RR X.K H m G H (.d d) v → Q v H := fun v q => g m G H (.refl s) r v q
    cases d with
    | non => cases cc with
      | none => exact ⟨_, pe_non, g _ .non⟩
      | _ => exact Bool.noConfusion (show false = true from hm)
    | bl b => cases cc with
      | bool b' =>
        have e : b = b' := eq_of_beq (show (b == b') = true from hm)
        subst e
        exact ⟨_, pe_bl, g _ (.bl b)⟩
      | _ => exact Bool.noConfusion (show false = true from hm)
    | int b => cases cc with
      | int b' =>
        have e : b = b' := of_decide_eq_true (show decide (b = b') = true from hm)
        subst e
        exact ⟨_, pe_int, g _ (.int b)⟩
      | _ => exact Bool.noConfusion (show false = true from hm)
    | str b => cases cc with
      | str b' =>
        have e : b = b' := of_decide_eq_true (show decide (b = b') = true from hm)
        subst e
        exact ⟨_, pe_str, g _ (.str b)⟩
      | _ => exact Bool.noConfusion (show false = true from hm)
    | _ => exact Bool.noConfusion (show false = true from hm)
  | _ => exact Bool.noConfusion (show false = true from hm)

theorem se_g {y : Str} {d : D} : SE ck c tb n (.g y d) := by
  intro X W x sc EN hsc hm m G H h σ t Q r s rs g
  cases x with
  | Name x pos =>
    obtain ⟨h123, h4⟩ := ba (show (((decide (x = y) && gl sc y) && okName y) && ck.isCon y d) = true from hm)
    obtain ⟨h12, h3⟩ := ba h123
    obtain ⟨h1, h2⟩ := ba h12
    have e : x = y := of_decide_eq_true h1
    subst e
    obtain ⟨u, v, e1, e2, e3⟩ := EN.cons _ _ h4
    exact ⟨_, pe_glob (gl_of hsc h2) e1 e2 (okName_dbg h3), g m G H (.refl s) r v (e3 m G)⟩
  | _ => exact Bool.noConfusion (show false = true from hm)

theorem le_line {a : Nat} (h : a ≤ 1000) : a ≤ sizeLine := by rw [sizeLine_eq]; omega
theorem evs_len {cf : Bool → Nat → List D → Hh → R RV} : ∀ {es : List I} {σ : Sg} {h : Hh} {ds : List D} {h' : Hh}, evs cf es σ h = .ok ds h' → ds.length = es.length
  | [], _, _, _, _, e => by cases e; rfl
  | x :: xs, σ, h, ds, h', e => by
    have e : ((ev cf x σ h).bind fun x h => match x.toD with
      | none => R.stuck
      | some d => (evs cf xs σ h).bind fun ds h => .ok (d :: ds) h) = .ok ds h' := e
    cases q : ev cf x σ h with
    | ok a h1 =>
      rw [q] at e
      have e : (match a.toD with
        | none => R.stuck
        | some d => (evs cf xs σ h1).bind fun ds h => .ok (d :: ds) h) = .ok ds h' := e
      cases q2 : a.toD with
      | none => rw [q2] at e; cases e
      | some d =>
        rw [q2] at e
        cases q3 : evs cf xs σ h1 with
        | ok b h2 => simp only [q3] at e; cases e; rw [List.length_cons, List.length_cons, evs_len q3]
        | exc _ _ => simp only [q3] at e; cases e
        | stuck => simp only [q3] at e; cases e
    | exc _ _ => rw [q] at e; cases e
    | stuck => rw [q] at e; cases e

theorem se_tup {es : List I} (he : SEs ck c tb n es) : SE ck c tb n (.tup es) := by
  intro X W x sc EN hsc hm m G H h σ t Q r s rs g
  cases x with
  | Tuple xs k pos =>
    obtain ⟨h1, h2⟩ := ba (show (mEs ck X.N sc es xs && decide (xs.length ≤ 1000)) = true from hm)
    refine ⟨_, pe_tup paB, ?_⟩
    refine he X W xs sc EN hsc h1 m G H h σ t _ r s rs (Good.mono (Good.bind s g) fun ds m1 G1 H1 s1 ⟨h', e1, r1, _, g1⟩ vs l => ?_)
    refine ⟨le_line (by rw [← l.length, evs_len e1, mEs_len h1]; exact of_decide_eq_true h2), fun p np => ?_⟩
    exact g1 m1 _ _ (s1.trans (Stp.new1 s1.sub2 r1 np _)) (r1.new1 s1.sub2 np _) _ (.tup (SqT.of upd_same) (l.step r1 (Stp.new1 s1.sub2 r1 np _)))
  | _ => exact Bool.noConfusion (show false = true from hm)

theorem se_lst {es : List I} (he : SEs ck c tb n es) : SE ck c tb n (.lst es) := by
  intro X W x sc EN hsc hm m G H h σ t Q r s rs g
  cases x with
  | List xs pos =>
    obtain ⟨h1, h2⟩ := ba (show (mEs ck X.N sc es xs && decide (xs.length ≤ 1000)) = true from hm)
    refine ⟨_, pe_lst paB, ?_⟩
    refine he X W xs sc EN hsc h1 m G H h σ t _ r s rs (Good.mono (Good.bind s g) fun ds m1 G1 H1 s1 ⟨h', e1, r1, _, g1⟩ vs l => ?_)
    refine ⟨le_line (by rw [← l.length, evs_len e1, mEs_len h1]; exact of_decide_eq_true h2), fun p np => ?_⟩
    have early : H p = none := by
      cases z : H p with
      | none => rfl
      | some o =>
        have np' : p ∉ m := fun hp => by
          have := r1.outNew s1.sub2 np
          exact this (s1.mem hp)
        rw [s1.keepH p o z np'] at np; cases np
    exact g1 m1 _ _ (s1.trans (Stp.newH s1.sub2 r1 np _)) r1 _ ⟨p, vs, rfl, upd_same, s1.sub2.no np, r1.outNew s1.sub2 np, early, l⟩
  | _ => exact Bool.noConfusion (show false = true from hm)

theorem se_bin {o : Bop} {a b : I} (ha : SE ck c tb n a) (hb : SE ck c tb n b) : SE ck c tb n (.bin o a b) := by
  intro X W x sc EN hsc hm m G H h σ t Q r s rs g
  cases x with
  | BinOp x p y pos =>
    obtain ⟨h12, h3⟩ := ba (show ((decide (p = opOf o) && mE ck X.N sc a x) && mE ck X.N sc b y) = true from hm)
    obtain ⟨h1, h2⟩ := ba h12
    have e : p = opOf o := of_decide_eq_true h1
    subst e
    refine ⟨_, pe_op opB peB peB, ?_⟩
    refine ha X W x sc EN hsc h2 m G H h σ t _ r s rs (Good.mono (Good.bind s g) fun rv m1 G1 H1 s1 ⟨h1, _, r1, _, g1⟩ v q => ?_)
    refine hb X W y sc EN hsc h3 m1 G1 H1 h1 σ t _ r1 s1.sub2 (rs.step r s1) (Good.mono (Good.bindL s1 g1) fun rw' m2 G2 H2 s2 ⟨h2, _, r2, s02, g2⟩ w q2 => ?_)
    obtain ⟨z, ez, g3⟩ := Good.ofO g2
    exact bin_ok ez s2.sub2 r2 (RR.step r1 s2 q) q2 fun m3 G3 H3 s3 r3 v3 q3 => g3 m3 G3 H3 (Stp.trans (s1.trans s2) s3) r3 v3 (RR.early (s1.trans s2) q3 fun a ha => s3.mem ha)
  | _ => exact Bool.noConfusion (show false = true from hm)

theorem un_negB {X : Cx} : UnR X (unaryOp .USub) (rU fun i => .int (-i)) := un_neg
theorem se_neg {a : I} (ha : SE ck c tb n a) : SE ck c tb n (.neg a) := by
  intro X W x sc EN hsc hm m G H h σ t Q r s rs g
  cases x with
  | UnaryOp p x pos =>
    cases p with
    | USub =>
      refine ⟨_, pe_un un_neg peB, ?_⟩
      refine ha X W x sc EN hsc hm m G H h σ t _ r s rs (Good.mono (Good.bind s g) fun rv m1 G1 H1 s1 ⟨h1, _, r1, _, g1⟩ v q => ?_)
      split at g1
      · cases RD.int_of q
        exact ⟨_, rfl, g1 m1 G1 H1 s1 r1 _ (.int _)⟩
      · exact g1.elim
    | _ => exact Bool.noConfusion (show false = true from hm)
  | _ => exact Bool.noConfusion (show false = true from hm)
theorem se_nt {a : I} (ha : SE ck c tb n a) : SE ck c tb n (.nt a) := by
  intro X W x sc EN hsc hm m G H h σ t Q r s rs g
  cases x with
  | UnaryOp p x pos =>
    cases p with
    | Not =>
      refine ⟨_, pe_not peB, ?_⟩
      refine ha X W x sc EN hsc hm m G H h σ t _ r s rs (Good.mono (Good.bind s g) fun rv m1 G1 H1 s1 ⟨h1, _, r1, _, g1⟩ v q => ?_)
      split at g1
      · cases RD.bl_of q
        exact ⟨_, rfl, g1 m1 G1 H1 s1 r1 _ (.bl _)⟩
      · exact g1.elim
    | _ => exact Bool.noConfusion (show false = true from hm)
  | _ => exact Bool.noConfusion (show false = true from hm)
theorem st_nt {a : I} (ha : ST ck c tb n a) : ST ck c tb n (.nt a) := by
  intro X W x sc EN hsc hm m G H h σ t Q r s rs g
  cases x with
  | UnaryOp p x pos =>
    cases p with
    | Not =>
      refine ⟨_, pt_not ptB, ?_⟩
      refine ha X W x sc EN hsc hm m G H h σ t _ r s rs (Good.mono (Good.bind s g) fun rv m1 G1 H1 s1 ⟨h1, _, r1, _, g1⟩ => ?_)
      split at g1
      · obtain ⟨b', e, q⟩ := g1 m1 G1 H1 s1 r1
        cases e
        exact ⟨_, rfl, q⟩
      · exact g1.elim
    | _ => exact Bool.noConfusion (show false = true from hm)
  | _ => exact Bool.noConfusion (show false = true from hm)

/-! ### a test that is no and, or, not, if, comparison -/
theorem plain_test {e : Expr} {env : Env} (h : plainTest e = true) (whole : Sem Value) : isTrue e env whole = (do let v ← whole; standAt e.pos; holding [v] (truthy v)) := by
  cases e with
  | UnaryOp op a p => cases op with
    | Not => cases h
    | _ => rfl
  | BoolOp _ _ _ => cases h
  | IfExp _ _ _ _ => cases h
  | Compare _ _ _ _ => cases h
  | _ => rfl
theorem st_of {e : I} (he : SE ck c tb n e) (hp : ∀ (N : List Str) (sc : Scope) (x : Expr), mE ck N sc e x = true → plainTest x = true) : ST ck c tb n e := by
  intro X W x sc EN hsc hm m G H h σ t Q r s rs g
  refine ⟨_, pt_val peB (fun w => plain_test (hp _ _ _ hm) w), ?_⟩
  refine he X W x sc EN hsc hm m G H h σ t _ r s rs (Good.mono g fun rv m1 G1 H1 s1 ⟨b, e, q⟩ v qv => ?_)
  subst e
  exact ⟨b, RD.bl_of qv, q⟩
end
end Cw
end

section
set_option Elab.async false
set_option linter.all false
set_option maxRecDepth 100000
set_option maxHeartbeats 4000000
/-! Cw11: and, or, comparisons, subscripts, calls. -/
namespace Cw
open PySem PySem.Spec PyProof.Rows L2

section
variable (ck : Ck) (c : Cs) (tb : Tb) (n : Nat)
def SA (es : List I) : Prop := ∀ (X : Cx) (W : WX) (xs : List Expr) (pos : Pos) (sc : Scope), Env1 ck c tb n X W → X.env.scope = sc → mEs ck X.N sc es xs = true → ∀ (m : List Addr) (G H : Hp) (h : Hh) (σ : Sg) (t : L2.St) (Q : VK), Rel X.K m h G → Sub G H → RS X.K m G σ t →
  Good c X.K m G H (fun C d H' => W C d t H') (eva (runB tb n) es σ h) (fun rv m' G' H' => ∀ v, RR X.K H m' G' H' rv v → Q v H') → bE X (.BoolOp .And xs pos) t H Q
def SO (es : List I) : Prop := ∀ (X : Cx) (W : WX) (xs : List Expr) (pos : Pos) (sc : Scope), Env1 ck c tb n X W → X.env.scope = sc → mEs ck X.N sc es xs = true → ∀ (m : List Addr) (G H : Hp) (h : Hh) (σ : Sg) (t : L2.St) (Q : VK), Rel X.K m h G → Sub G H → RS X.K m G σ t →
  Good c X.K m G H (fun C d H' => W C d t H') (evo (runB tb n) es σ h) (fun rv m' G' H' => ∀ v, RR X.K H m' G' H' rv v → Q v H') → bE X (.BoolOp .Or xs pos) t H Q
def SAT (es : List I) : Prop := ∀ (X : Cx) (W : WX) (xs : List Expr) (pos : Pos) (sc : Scope), Env1 ck c tb n X W → X.env.scope = sc → mEs ck X.N sc es xs = true → ∀ (m : List Addr) (G H : Hp) (h : Hh) (σ : Sg) (t : L2.St) (Q : Bool → Hp → Prop), Rel X.K m h G → Sub G H → RS X.K m G σ t →
  Good c X.K m G H (fun C d H' => W C d t H') (eva (runB tb n) es σ h) (fun rv m' G' H' => ∃ b, rv = .d (.bl b) ∧ Q b H') → bW X (.BoolOp .And xs pos) t H Q
def SOT (es : List I) : Prop := ∀ (X : Cx) (W : WX) (xs : List Expr) (pos : Pos) (sc : Scope), Env1 ck c tb n X W → X.env.scope = sc → mEs ck X.N sc es xs = true → ∀ (m : List Addr) (G H : Hp) (h : Hh) (σ : Sg) (t : L2.St) (Q : Bool → Hp → Prop), Rel X.K m h G → Sub G H → RS X.K m G σ t →
  Good c X.K m G H (fun C d H' => W C d t H') (evo (runB tb n) es σ h) (fun rv m' G' H' => ∃ b, rv = .d (.bl b) ∧ Q b H') → bW X (.BoolOp .Or xs pos) t H Q
end
section
variable {ck : Ck} {c : Cs} {tb : Tb} {n : Nat}
theorem sa_nil : SA ck c tb n [] := by
  intro X W xs pos sc EN hsc hm m G H h σ t Q r s rs g
  exact g.elim
theorem so_nil : SO ck c tb n [] := by
  intro X W xs pos sc EN hsc hm m G H h σ t Q r s rs g
  exact g.elim
theorem sat_nil : SAT ck c tb n [] := by
  intro X W xs pos sc EN hsc hm m G H h σ t Q r s rs g
  exact g.elim
theorem sot_nil : SOT ck c tb n [] := by
  intro X W xs pos sc EN hsc hm m G H h σ t Q r s rs g
  exact g.elim
theorem sa_cons {e : I} {es : List I} (he : SE ck c tb n e) (hs : SA ck c tb n es) : SA ck c tb n (e :: es) := by
  intro X W xs pos sc EN hsc hm m G H h σ t Q r s rs g
  cases xs with
  | nil => cases hm
  | cons x xs =>
    obtain ⟨h1, h2⟩ := ba (show (mE ck X.N sc e x && mEs ck X.N sc es xs) = true from hm)
    cases es with
    | nil => cases xs with
      | cons _ _ => cases h2
      | nil => exact ⟨_, pe_one peB, he X W x sc EN hsc h1 m G H h σ t _ r s rs g⟩
    | cons e2 es => cases xs with
      | nil => cases h2
      | cons x2 xs =>
        refine ⟨_, pe_and peB peB, ?_⟩
        refine he X W x sc EN hsc h1 m G H h σ t _ r s rs (Good.mono (Good.bind s g) fun rv m1 G1 H1 s1 ⟨h', _, r1, _, g1⟩ v q => ?_)
        split at g1
        · cases RD.bl_of q
          refine ⟨true, rfl, ?_⟩
          rw [if_pos rfl]
          exact hs X W (x2 :: xs) pos sc EN hsc h2 m1 G1 H1 h' σ t _ r1 s1.sub2 (rs.step r s1) (Good.mono (Good.later s1 g1) fun rv m2 G2 H2 s2 k v q => k v (RR.early s1 q fun a ha => s2.mem ha))
        · cases RD.bl_of q
          exact ⟨false, rfl, g1 m1 G1 H1 s1 r1 _ (.bl _)⟩
        · exact g1.elim
theorem so_cons {e : I} {es : List I} (he : SE ck c tb n e) (hs : SO ck c tb n es) : SO ck c tb n (e :: es) := by
  intro X W xs pos sc EN hsc hm m G H h σ t Q r s rs g
  cases xs with
  | nil => cases hm
  | cons x xs =>
    obtain ⟨h1, h2⟩ := ba (show (mE ck X.N sc e x && mEs ck X.N sc es xs) = true from hm)
    cases es with
    | nil => cases xs with
      | cons _ _ => cases h2
      | nil => exact ⟨_, pe_one peB, he X W x sc EN hsc h1 m G H h σ t _ r s rs g⟩
    | cons e2 es => cases xs with
      | nil => cases h2
      | cons x2 xs =>
        refine ⟨_, pe_or peB peB, ?_⟩
        refine he X W x sc EN hsc h1 m G H h σ t _ r s rs (Good.mono (Good.bind s g) fun rv m1 G1 H1 s1 ⟨h', _, r1, _, g1⟩ v q => ?_)
        split at g1
        · cases RD.bl_of q
          refine ⟨false, rfl, ?_⟩
          rw [if_neg Bool.false_ne_true]
          exact hs X W (x2 :: xs) pos sc EN hsc h2 m1 G1 H1 h' σ t _ r1 s1.sub2 (rs.step r s1) (Good.mono (Good.later s1 g1) fun rv m2 G2 H2 s2 k v q => k v (RR.early s1 q fun a ha => s2.mem ha))
        · cases RD.bl_of q
          exact ⟨true, rfl, g1 m1 G1 H1 s1 r1 _ (.bl _)⟩
        · exact g1.elim
theorem sat_cons {e : I} {es : List I} (he : ST ck c tb n e) (hs : SAT ck c tb n es) : SAT ck c tb n (e :: es) := by
  intro X W xs pos sc EN hsc hm m G H h σ t Q r s rs g
  cases xs with
  | nil => cases hm
  | cons x xs =>
    obtain ⟨h1, h2⟩ := ba (show (mE ck X.N sc e x && mEs ck X.N sc es xs) = true from hm)
    cases es with
    | nil => cases xs with
      | cons _ _ => cases h2
      | nil => exact ⟨_, pw_and1 ptB, he X W x sc EN hsc h1 m G H h σ t _ r s rs g⟩
    | cons e2 es => cases xs with
      | nil => cases h2
      | cons x2 xs =>
        refine ⟨_, pw_and ptB pwB, ?_⟩
        refine he X W x sc EN hsc h1 m G H h σ t _ r s rs (Good.mono (Good.bind s g) fun rv m1 G1 H1 s1 ⟨h', _, r1, _, g1⟩ => ?_)
        split at g1
        · refine ⟨true, rfl, ?_⟩
          show if true = true then _ else _
          rw [if_pos rfl]
          exact hs X W (x2 :: xs) pos sc EN hsc h2 m1 G1 H1 h' σ t _ r1 s1.sub2 (rs.step r s1) (Good.later s1 g1)
        · obtain ⟨b, e, q⟩ := g1 m1 G1 H1 s1 r1
          cases e
          exact ⟨false, rfl, q⟩
        · exact g1.elim
theorem sot_cons {e : I} {es : List I} (he : ST ck c tb n e) (hs : SOT ck c tb n es) : SOT ck c tb n (e :: es) := by
  intro X W xs pos sc EN hsc hm m G H h σ t Q r s rs g
  cases xs with
  | nil => cases hm
  | cons x xs =>
    obtain ⟨h1, h2⟩ := ba (show (mE ck X.N sc e x && mEs ck X.N sc es xs) = true from hm)
    cases es with
    | nil => cases xs with
      | cons _ _ => cases h2
      | nil => exact ⟨_, pw_or1 ptB, he X W x sc EN hsc h1 m G H h σ t _ r s rs g⟩
    | cons e2 es => cases xs with
      | nil => cases h2
      | cons x2 xs =>
        refine ⟨_, pw_or ptB pwB, ?_⟩
        refine he X W x sc EN hsc h1 m G H h σ t _ r s rs (Good.mono (Good.bind s g) fun rv m1 G1 H1 s1 ⟨h', _, r1, _, g1⟩ => ?_)
        split at g1
        · refine ⟨false, rfl, ?_⟩
          show if false = true then _ else _
          rw [if_neg Bool.false_ne_true]
          exact hs X W (x2 :: xs) pos sc EN hsc h2 m1 G1 H1 h' σ t _ r1 s1.sub2 (rs.step r s1) (Good.later s1 g1)
        · obtain ⟨b, e, q⟩ := g1 m1 G1 H1 s1 r1
          cases e
          exact ⟨true, rfl, q⟩
        · exact g1.elim
theorem se_and {es : List I} (h : SA ck c tb n es) : SE ck c tb n (.and es) := by
  intro X W x sc EN hsc hm m G H hh σ t Q r s rs g
  cases x with
  | BoolOp p xs pos =>
    cases p with
    | And => exact h X W xs pos sc EN hsc hm m G H hh σ t Q r s rs g
    | Or => exact Bool.noConfusion (show false = true from hm)
  | _ => exact Bool.noConfusion (show false = true from hm)
theorem se_or {es : List I} (h : SO ck c tb n es) : SE ck c tb n (.or es) := by
  intro X W x sc EN hsc hm m G H hh σ t Q r s rs g
  cases x with
  | BoolOp p xs pos =>
    cases p with
    | Or => exact h X W xs pos sc EN hsc hm m G H hh σ t Q r s rs g
    | And => exact Bool.noConfusion (show false = true from hm)
  | _ => exact Bool.noConfusion (show false = true from hm)
theorem st_and {es : List I} (h : SAT ck c tb n es) : ST ck c tb n (.and es) := by
  intro X W x sc EN hsc hm m G H hh σ t Q r s rs g
  cases x with
  | BoolOp p xs pos =>
    cases p with
    | And => exact ⟨_, pwB.pt, h X W xs pos sc EN hsc hm m G H hh σ t Q r s rs g⟩
    | Or => exact Bool.noConfusion (show false = true from hm)
  | _ => exact Bool.noConfusion (show false = true from hm)
theorem st_or {es : List I} (h : SOT ck c tb n es) : ST ck c tb n (.or es) := by
  intro X W x sc EN hsc hm m G H hh σ t Q r s rs g
  cases x with
  | BoolOp p xs pos =>
    cases p with
    | Or => exact ⟨_, pwB.pt, h X W xs pos sc EN hsc hm m G H hh σ t Q r s rs g⟩
    | And => exact Bool.noConfusion (show false = true from hm)
  | _ => exact Bool.noConfusion (show false = true from hm)

/-! ### comparisons -/
theorem tru_f {a : Bool} (h : (!a) = true) : a = false := by simpa using h
theorem bmk {c : Cs} {K : PySem.W.Frag} {m : List Addr} {G H : Hp} {E : WE3} {h : Hh} {o : Option Bool} {P : RV → List Addr → Hp → Hp → Prop} (g : Good c K m G H E (R.ofO (o.map fun b => RV.d (.bl b)) h) P) :
    ∃ b, o = some b ∧ ∀ m' G' H', Stp m G H m' G' H' → Rel K m' h G' → P (.d (.bl b)) m' G' H' := by
  cases o with
  | none => exact g.elim
  | some b => exact ⟨b, rfl, g⟩
theorem se_cmp {o : Cop} {a b : I} (ha : SE ck c tb n a) (hb : SE ck c tb n b) : SE ck c tb n (.cmp o a b) := by
  intro X W x sc EN hsc hm m G H h σ t Q r s rs g
  cases x with
  | Compare x ps ys pos =>
    match ps, ys, hm with
    | [p], [y], hm =>
      obtain ⟨h123, h4⟩ := ba (show (((decide (p = cOf o) && !(behindInMarks p y)) && mE ck X.N sc a x) && mE ck X.N sc b y) = true from hm)
      obtain ⟨h12, h3⟩ := ba h123
      obtain ⟨h1, h2⟩ := ba h12
      have e : p = cOf o := of_decide_eq_true h1
      subst e
      refine ⟨_, pe_cmpR opB peB peB (tru_f h2), ?_⟩
      refine ha X W x sc EN hsc h3 m G H h σ t _ r s rs (Good.mono (Good.bind s g) fun rv m1 G1 H1 s1 ⟨h1, _, r1, _, g1⟩ v q => ?_)
      refine hb X W y sc EN hsc h4 m1 G1 H1 h1 σ t _ r1 s1.sub2 (rs.step r s1) (Good.mono (Good.bindL s1 g1) fun rw' m2 G2 H2 s2 ⟨h2, _, r2, s02, g2⟩ w q2 => ?_)
      obtain ⟨k, ez, g3⟩ := bmk g2
      exact cmp_ok (by have := EN.units; omega) ez s2.sub2 r2 (RR.step r1 s2 q) q2 (g3 m2 G2 H2 s02 r2 _ (.bl _))
    | [], [], hm => exact Bool.noConfusion (show false = true from hm)
    | [], _ :: _, hm => exact Bool.noConfusion (show false = true from hm)
    | [_], [], hm => exact Bool.noConfusion (show false = true from hm)
    | [_], _ :: _ :: _, hm => exact Bool.noConfusion (show false = true from hm)
    | _ :: _ :: _, [], hm => exact Bool.noConfusion (show false = true from hm)
    | _ :: _ :: _, _ :: _, hm => exact Bool.noConfusion (show false = true from hm)
  | _ => exact Bool.noConfusion (show false = true from hm)
theorem st_cmp {o : Cop} {a b : I} (ha : SE ck c tb n a) (hb : SE ck c tb n b) : ST ck c tb n (.cmp o a b) := by
  intro X W x sc EN hsc hm m G H h σ t Q r s rs g
  cases x with
  | Compare x ps ys pos =>
    match ps, ys, hm with
    | [p], [y], hm =>
      obtain ⟨h123, h4⟩ := ba (show (((decide (p = cOf o) && !(behindInMarks p y)) && mE ck X.N sc a x) && mE ck X.N sc b y) = true from hm)
      obtain ⟨h12, h3⟩ := ba h123
      obtain ⟨h1, h2⟩ := ba h12
      have e : p = cOf o := of_decide_eq_true h1
      subst e
      refine ⟨_, pt_cmpR opB peB peB (tru_f h2), ?_⟩
      refine ha X W x sc EN hsc h3 m G H h σ t _ r s rs (Good.mono (Good.bind s g) fun rv m1 G1 H1 s1 ⟨h1, _, r1, _, g1⟩ v q => ?_)
      refine hb X W y sc EN hsc h4 m1 G1 H1 h1 σ t _ r1 s1.sub2 (rs.step r s1) (Good.mono (Good.bindL s1 g1) fun rw' m2 G2 H2 s2 ⟨h2, _, r2, s02, g2⟩ w q2 => ?_)
      obtain ⟨k, ez, g3⟩ := bmk g2
      obtain ⟨b, e, qb⟩ := g3 m2 G2 H2 s02 r2
      cases e
      exact cmp_ok (by have := EN.units; omega) ez s2.sub2 r2 (RR.step r1 s2 q) q2 ⟨_, rfl, qb⟩
    | [], [], hm => exact Bool.noConfusion (show false = true from hm)
    | [], _ :: _, hm => exact Bool.noConfusion (show false = true from hm)
    | [_], [], hm => exact Bool.noConfusion (show false = true from hm)
    | [_], _ :: _ :: _, hm => exact Bool.noConfusion (show false = true from hm)
    | _ :: _ :: _, [], hm => exact Bool.noConfusion (show false = true from hm)
    | _ :: _ :: _, _ :: _, hm => exact Bool.noConfusion (show false = true from hm)
  | _ => exact Bool.noConfusion (show false = true from hm)
end
end Cw
end

section
set_option Elab.async false
set_option linter.all false
set_option maxRecDepth 100000
set_option maxHeartbeats 4000000
/-! Cw12: chains, if-expressions, subscripts, calls, methods. -/
namespace Cw
open PySem PySem.Spec PyProof.Rows L2

section
variable {X : Cx} {a b cc d : Expr} {ta tb' tc td : TE} {pos : Pos} {op op' op2 : CmpOp} {r r' r2 : R2}
def tChain3 (r r' r2 : R2) (ta tb tc td : TE) : TE := fun σ H Q => ta σ H fun x H1 => tb σ H1 fun y H2 => r x y H2 fun z H3 => ∃ k, z = .bl k ∧
  (if k = true then tc σ H3 fun w' H4 => r' y w' H4 fun z2 H5 => ∃ k2, z2 = .bl k2 ∧ (if k2 = true then td σ H5 fun w2 H6 => r2 w' w2 H6 Q else Q (.bl false) H5) else Q (.bl false) H3)
theorem pe_chain3 (ho : OpR X (compareOp op) r) (ho' : OpR X (compareOp op') r') (ho2 : OpR X (compareOp op2) r2) (ha : PE X a ta) (hb : PE X b tb') (hc : PE X cc tc) (hd : PE X d td)
    (hm : lastMarks [op, op', op2] [b, cc, d] = false) : PE X (.Compare a [op, op', op2] [b, cc, d] pos) (tChain3 r r' r2 ta tb' tc td) := by
  refine ⟨fun pins s σ H Q I h => ?_⟩
  refine Compare_chain (thn (ha.run pins s σ H _ I h) fun v s1 ⟨x, H1, I1, r1, q1⟩ => chain_link (thn (hb.run pins s1 σ H1 _ I1 q1) fun u s2 ⟨y, H2, I2, r2, q2⟩ =>
    thn (ho pins s2 σ H2 x y v u _ I2 r1 r2 q2) fun d s3 ⟨z, H3, I3, r3, k, e, q3⟩ => ?_)) hm
  subst e
  cases r3
  refine wpAny_truthy_bool ?_
  cases k with
  | false => exact ite_ff ⟨.bl false, H3, I3, rfl, q3⟩
  | true =>
    refine ite_tt (chain_link (thn (hc.run pins s3 σ H3 _ I3 q3) fun w' s4 ⟨z', H4, I4, r4, q4⟩ => thn (ho' pins s4 σ H4 y z' u w' _ I4 r2 r4 q4) fun d2 s5 ⟨z2, H5, I5, r5, k2, e2, q5⟩ => ?_))
    subst e2
    cases r5
    refine wpAny_truthy_bool ?_
    cases k2 with
    | false => exact ite_ff ⟨.bl false, H5, I5, rfl, q5⟩
    | true => exact ite_tt (chain_last (thn (hd.run pins s5 σ H5 _ I5 q5) fun w2 s6 ⟨z6, H6, I6, r6, q6⟩ => ho2 pins s6 σ H6 z' z6 w' w2 Q I6 r4 r6 q6))
theorem pt_chain3 (ho : OpR X (compareOp op) r) (ho' : OpR X (compareOp op') r') (ho2 : OpR X (compareOp op2) r2) (ha : PE X a ta) (hb : PE X b tb') (hc : PE X cc tc) (hd : PE X d td)
    (hm : lastMarks [op, op', op2] [b, cc, d] = false) : PT X (.Compare a [op, op', op2] [b, cc, d] pos) (tTest (tChain3 r r' r2 ta tb' tc td)) := by
  refine ⟨fun pins s σ H Q I h => ?_⟩
  refine isTrue_chain (thn (ha.run pins s σ H _ I h) fun v s1 ⟨x, H1, I1, r1, q1⟩ => test_link (thn (hb.run pins s1 σ H1 _ I1 q1) fun u s2 ⟨y, H2, I2, r2, q2⟩ =>
    thn (ho pins s2 σ H2 x y v u _ I2 r1 r2 q2) fun d s3 ⟨z, H3, I3, r3, k, e, q3⟩ => ?_)) hm
  subst e
  cases r3
  refine wpAny_truthy_bool ?_
  cases k with
  | false =>
    obtain ⟨k', e', q'⟩ := q3
    cases e'
    exact ite_ff ⟨H3, I3, q'⟩
  | true =>
    refine ite_tt (test_link (thn (hc.run pins s3 σ H3 _ I3 q3) fun w' s4 ⟨z', H4, I4, r4, q4⟩ => thn (ho' pins s4 σ H4 y z' u w' _ I4 r2 r4 q4) fun d2 s5 ⟨z2, H5, I5, r5, k2, e2, q5⟩ => ?_))
    subst e2
    cases r5
    refine wpAny_truthy_bool ?_
    cases k2 with
    | false =>
      obtain ⟨k', e', q'⟩ := q5
      cases e'
      exact ite_ff ⟨H5, I5, q'⟩
    | true =>
      refine ite_tt (test_last (thn (hd.run pins s5 σ H5 _ I5 q5) fun w2 s6 ⟨z6, H6, I6, r6, q6⟩ => thn (ho2 pins s6 σ H6 z' z6 w' w2 _ I6 r4 r6 q6) fun d' s7 ⟨z7, H7, I7, r7, k7, e7, q7⟩ => ?_))
      subst e7
      cases r7
      exact wpAny_truthy_bool ⟨H7, I7, q7⟩
end

section
variable {ck : Ck} {c : Cs} {tb : Tb} {n : Nat}
/-- two places of a comparison -/
theorem len2 {α β : Type} {P : List α → List β → Prop} {ps : List α} {ys : List β} (h : P ps ys) : P ps ys := h
theorem mE_chn {N : List Str} {sc : Scope} {o p : Cop} {a b cc : I} {x : Expr} (hm : mE ck N sc (.chn o p a b cc) x = true) : ∃ x1 y z pos, x = .Compare x1 [cOf o, cOf p] [y, z] pos ∧ lastMarks [cOf o, cOf p] [y, z] = false ∧ mE ck N sc a x1 = true ∧ mE ck N sc b y = true ∧ mE ck N sc cc z = true := by
  cases x with
  | Compare x ps ys pos =>
    cases ps with
    | nil => exact Bool.noConfusion (show false = true from hm)
    | cons p1 ps => cases ps with
      | nil => exact Bool.noConfusion (show false = true from hm)
      | cons p2 ps => cases ps with
        | cons _ _ => exact Bool.noConfusion (show false = true from hm)
        | nil => cases ys with
          | nil => exact Bool.noConfusion (show false = true from hm)
          | cons y ys => cases ys with
            | nil => exact Bool.noConfusion (show false = true from hm)
            | cons z ys => cases ys with
              | cons _ _ => exact Bool.noConfusion (show false = true from hm)
              | nil =>
                obtain ⟨h1, h6⟩ := ba (show (((((decide (p1 = cOf o) && decide (p2 = cOf p)) && !(lastMarks [p1, p2] [y, z])) && mE ck N sc a x) && mE ck N sc b y) && mE ck N sc cc z) = true from hm)
                obtain ⟨h1, h5⟩ := ba h1
                obtain ⟨h1, h4⟩ := ba h1
                obtain ⟨h1, h3⟩ := ba h1
                obtain ⟨h1, h2⟩ := ba h1
                have e1 : p1 = cOf o := of_decide_eq_true h1
                have e2 : p2 = cOf p := of_decide_eq_true h2
                subst e1 e2
                exact ⟨x, y, z, pos, rfl, tru_f h3, h4, h5, h6⟩
  | _ => exact Bool.noConfusion (show false = true from hm)
theorem mE_chn3 {N : List Str} {sc : Scope} {o p q : Cop} {a b cc d : I} {x : Expr} (hm : mE ck N sc (.chn3 o p q a b cc d) x = true) : ∃ x1 y z w pos, x = .Compare x1 [cOf o, cOf p, cOf q] [y, z, w] pos ∧ lastMarks [cOf o, cOf p, cOf q] [y, z, w] = false ∧ mE ck N sc a x1 = true ∧ mE ck N sc b y = true ∧ mE ck N sc cc z = true ∧ mE ck N sc d w = true := by
  cases x with
  | Compare x ps ys pos =>
    cases ps with
    | nil => exact Bool.noConfusion (show false = true from hm)
    | cons p1 ps => cases ps with
      | nil => exact Bool.noConfusion (show false = true from hm)
      | cons p2 ps => cases ps with
        | nil => exact Bool.noConfusion (show false = true from hm)
        | cons p3 ps => cases ps with
          | cons _ _ => exact Bool.noConfusion (show false = true from hm)
          | nil => cases ys with
            | nil => exact Bool.noConfusion (show false = true from hm)
            | cons y ys => cases ys with
              | nil => exact Bool.noConfusion (show false = true from hm)
              | cons z ys => cases ys with
                | nil => exact Bool.noConfusion (show false = true from hm)
                | cons w ys => cases ys with
                  | cons _ _ => exact Bool.noConfusion (show false = true from hm)
                  | nil =>
                    obtain ⟨h1, h8⟩ := ba (show (((((((decide (p1 = cOf o) && decide (p2 = cOf p)) && decide (p3 = cOf q)) && !(lastMarks [p1, p2, p3] [y, z, w])) && mE ck N sc a x) && mE ck N sc b y) && mE ck N sc cc z) && mE ck N sc d w) = true from hm)
                    obtain ⟨h1, h6⟩ := ba h1
                    obtain ⟨h1, h5⟩ := ba h1
                    obtain ⟨h1, h4⟩ := ba h1
                    obtain ⟨h1, h3⟩ := ba h1
                    obtain ⟨h1, h7⟩ := ba h1
                    obtain ⟨h1, h2⟩ := ba h1
                    have e1 : p1 = cOf o := of_decide_eq_true h1
                    have e2 : p2 = cOf p := of_decide_eq_true h2
                    have e3 : p3 = cOf q := of_decide_eq_true h7
                    subst e1 e2 e3
                    exact ⟨x, y, z, w, pos, rfl, tru_f h3, h4, h5, h6, h8⟩
  | _ => exact Bool.noConfusion (show false = true from hm)

theorem se_chn {o p : Cop} {a b cc : I} (ha : SE ck c tb n a) (hb : SE ck c tb n b) (hc : SE ck c tb n cc) : SE ck c tb n (.chn o p a b cc) := by
  intro X W x sc EN hsc hm m G H h σ t Q r s rs g
  have hu : X.A.units + 65 < cLine := by have := EN.units; omega
  obtain ⟨x, y, z, pos, rfl, hl, m1, m2, m3⟩ := mE_chn hm
  refine ⟨_, pe_chain opB opB peB peB peB hl, ?_⟩
  refine ha X W x sc EN hsc m1 m G H h σ t _ r s rs (Good.mono (Good.bind s g) fun rv m1 G1 H1 s1 ⟨h1, _, r1, _, g1⟩ v q => ?_)
  refine hb X W y sc EN hsc m2 m1 G1 H1 h1 σ t _ r1 s1.sub2 (rs.step r s1) (Good.mono (Good.bindL s1 g1) fun rw' m2 G2 H2 s2 ⟨h2, _, r2, s02, g2⟩ w q2 => ?_)
  split at g2
  · rename_i e
    refine cmp_ok hu e s2.sub2 r2 (RR.step r1 s2 q) q2 ⟨true, rfl, ?_⟩
    rw [if_pos rfl]
    refine hc X W z sc EN hsc m3 m2 G2 H2 h2 σ t _ r2 s2.sub2 ((rs.step r s1).step r1 s2) (Good.mono (Good.bindL s02 g2) fun rz m3 G3 H3 s3 ⟨h3, _, r3, s03, g3⟩ u q3 => ?_)
    obtain ⟨k, ez, g4⟩ := bmk g3
    exact cmp_ok hu ez s3.sub2 r3 (RR.step r2 s3 q2) q3 (g4 m3 G3 H3 s03 r3 _ (.bl _))
  · rename_i e
    refine cmp_ok hu e s2.sub2 r2 (RR.step r1 s2 q) q2 ⟨false, rfl, ?_⟩
    rw [if_neg Bool.false_ne_true]
    exact g2 m2 G2 H2 s02 r2 _ (.bl _)
  · exact g2.elim
theorem st_chn {o p : Cop} {a b cc : I} (ha : SE ck c tb n a) (hb : SE ck c tb n b) (hc : SE ck c tb n cc) : ST ck c tb n (.chn o p a b cc) := by
  intro X W x sc EN hsc hm m G H h σ t Q r s rs g
  have hu : X.A.units + 65 < cLine := by have := EN.units; omega
  obtain ⟨x, y, z, pos, rfl, hl, m1, m2, m3⟩ := mE_chn hm
  refine ⟨_, pt_chain opB opB peB peB peB hl, ?_⟩
  refine ha X W x sc EN hsc m1 m G H h σ t _ r s rs (Good.mono (Good.bind s g) fun rv m1 G1 H1 s1 ⟨h1, _, r1, _, g1⟩ v q => ?_)
  refine hb X W y sc EN hsc m2 m1 G1 H1 h1 σ t _ r1 s1.sub2 (rs.step r s1) (Good.mono (Good.bindL s1 g1) fun rw' m2 G2 H2 s2 ⟨h2, _, r2, s02, g2⟩ w q2 => ?_)
  split at g2
  · rename_i e
    refine cmp_ok hu e s2.sub2 r2 (RR.step r1 s2 q) q2 ⟨true, rfl, ?_⟩
    rw [if_pos rfl]
    refine hc X W z sc EN hsc m3 m2 G2 H2 h2 σ t _ r2 s2.sub2 ((rs.step r s1).step r1 s2) (Good.mono (Good.bindL s02 g2) fun rz m3 G3 H3 s3 ⟨h3, _, r3, s03, g3⟩ u q3 => ?_)
    obtain ⟨k, ez, g4⟩ := bmk g3
    obtain ⟨b, e, qb⟩ := g4 m3 G3 H3 s03 r3
    cases e
    exact cmp_ok hu ez s3.sub2 r3 (RR.step r2 s3 q2) q3 ⟨_, rfl, qb⟩
  · rename_i e
    refine cmp_ok hu e s2.sub2 r2 (RR.step r1 s2 q) q2 ⟨false, rfl, ?_⟩
    rw [if_neg Bool.false_ne_true]
    obtain ⟨b, e, qb⟩ := g2 m2 G2 H2 s02 r2
    cases e
    exact ⟨_, rfl, qb⟩
  · exact g2.elim
theorem se_chn3 {o p q : Cop} {a b cc d : I} (ha : SE ck c tb n a) (hb : SE ck c tb n b) (hc : SE ck c tb n cc) (hd : SE ck c tb n d) : SE ck c tb n (.chn3 o p q a b cc d) := by
  intro X W x sc EN hsc hm m G H h σ t Q r s rs g
  have hu : X.A.units + 65 < cLine := by have := EN.units; omega
  obtain ⟨x, y, z, w, pos, rfl, hl, m1, m2, m3, m4⟩ := mE_chn3 hm
  refine ⟨_, pe_chain3 opB opB opB peB peB peB peB hl, ?_⟩
  refine ha X W x sc EN hsc m1 m G H h σ t _ r s rs (Good.mono (Good.bind s g) fun rv m1 G1 H1 s1 ⟨h1, _, r1, _, g1⟩ v q => ?_)
  refine hb X W y sc EN hsc m2 m1 G1 H1 h1 σ t _ r1 s1.sub2 (rs.step r s1) (Good.mono (Good.bindL s1 g1) fun rw' m2 G2 H2 s2 ⟨h2, _, r2, s02, g2⟩ u q2 => ?_)
  split at g2
  · rename_i e
    refine cmp_ok hu e s2.sub2 r2 (RR.step r1 s2 q) q2 ⟨true, rfl, ?_⟩
    rw [if_pos rfl]
    refine hc X W z sc EN hsc m3 m2 G2 H2 h2 σ t _ r2 s2.sub2 ((rs.step r s1).step r1 s2) (Good.mono (Good.bindL s02 g2) fun rz m3 G3 H3 s3 ⟨h3, _, r3, s03, g3⟩ u q3 => ?_)
    split at g3
    · rename_i e
      refine cmp_ok hu e s3.sub2 r3 (RR.step r2 s3 q2) q3 ⟨true, rfl, ?_⟩
      rw [if_pos rfl]
      refine hd X W w sc EN hsc m4 m3 G3 H3 h3 σ t _ r3 s3.sub2 (((rs.step r s1).step r1 s2).step r2 s3) (Good.mono (Good.bindL s03 g3) fun rw2 m4 G4 H4 s4 ⟨h4, _, r4, s04, g4⟩ u4 q4 => ?_)
      obtain ⟨k, ez, g5⟩ := bmk g4
      exact cmp_ok hu ez s4.sub2 r4 (RR.step r3 s4 q3) q4 (g5 m4 G4 H4 s04 r4 _ (.bl _))
    · rename_i e
      refine cmp_ok hu e s3.sub2 r3 (RR.step r2 s3 q2) q3 ⟨false, rfl, ?_⟩
      rw [if_neg Bool.false_ne_true]
      exact g3 m3 G3 H3 s03 r3 _ (.bl _)
    · exact g3.elim
  · rename_i e
    refine cmp_ok hu e s2.sub2 r2 (RR.step r1 s2 q) q2 ⟨false, rfl, ?_⟩
    rw [if_neg Bool.false_ne_true]
    exact g2 m2 G2 H2 s02 r2 _ (.bl _)
  · exact g2.elim
theorem st_chn3 {o p q : Cop} {a b cc d : I} (ha : SE ck c tb n a) (hb : SE ck c tb n b) (hc : SE ck c tb n cc) (hd : SE ck c tb n d) : ST ck c tb n (.chn3 o p q a b cc d) := by
  intro X W x sc EN hsc hm m G H h σ t Q r s rs g
  have hu : X.A.units + 65 < cLine := by have := EN.units; omega
  obtain ⟨x, y, z, w, pos, rfl, hl, m1, m2, m3, m4⟩ := mE_chn3 hm
  refine ⟨_, pt_chain3 opB opB opB peB peB peB peB hl, ?_⟩
  refine ha X W x sc EN hsc m1 m G H h σ t _ r s rs (Good.mono (Good.bind s g) fun rv m1 G1 H1 s1 ⟨h1, _, r1, _, g1⟩ v q => ?_)
  refine hb X W y sc EN hsc m2 m1 G1 H1 h1 σ t _ r1 s1.sub2 (rs.step r s1) (Good.mono (Good.bindL s1 g1) fun rw' m2 G2 H2 s2 ⟨h2, _, r2, s02, g2⟩ u q2 => ?_)
  split at g2
  · rename_i e
    refine cmp_ok hu e s2.sub2 r2 (RR.step r1 s2 q) q2 ⟨true, rfl, ?_⟩
    rw [if_pos rfl]
    refine hc X W z sc EN hsc m3 m2 G2 H2 h2 σ t _ r2 s2.sub2 ((rs.step r s1).step r1 s2) (Good.mono (Good.bindL s02 g2) fun rz m3 G3 H3 s3 ⟨h3, _, r3, s03, g3⟩ u q3 => ?_)
    split at g3
    · rename_i e
      refine cmp_ok hu e s3.sub2 r3 (RR.step r2 s3 q2) q3 ⟨true, rfl, ?_⟩
      rw [if_pos rfl]
      refine hd X W w sc EN hsc m4 m3 G3 H3 h3 σ t _ r3 s3.sub2 (((rs.step r s1).step r1 s2).step r2 s3) (Good.mono (Good.bindL s03 g3) fun rw2 m4 G4 H4 s4 ⟨h4, _, r4, s04, g4⟩ u4 q4 => ?_)
      obtain ⟨k, ez, g5⟩ := bmk g4
      obtain ⟨b, e, qb⟩ := g5 m4 G4 H4 s04 r4
      cases e
      exact cmp_ok hu ez s4.sub2 r4 (RR.step r3 s4 q3) q4 ⟨_, rfl, qb⟩
    · rename_i e
      refine cmp_ok hu e s3.sub2 r3 (RR.step r2 s3 q2) q3 ⟨false, rfl, ?_⟩
      rw [if_neg Bool.false_ne_true]
      obtain ⟨b, e, qb⟩ := g3 m3 G3 H3 s03 r3
      cases e
      exact ⟨_, rfl, qb⟩
    · exact g3.elim
  · rename_i e
    refine cmp_ok hu e s2.sub2 r2 (RR.step r1 s2 q) q2 ⟨false, rfl, ?_⟩
    rw [if_neg Bool.false_ne_true]
    obtain ⟨b, e, qb⟩ := g2 m2 G2 H2 s02 r2
    cases e
    exact ⟨_, rfl, qb⟩
  · exact g2.elim

theorem se_ife {cc a b : I} (hc : ST ck c tb n cc) (ha : SE ck c tb n a) (hb : SE ck c tb n b) : SE ck c tb n (.ife cc a b) := by
  intro X W x sc EN hsc hm m G H h σ t Q r s rs g
  cases x with
  | IfExp z x y pos =>
    obtain ⟨h12, h3⟩ := ba (show ((mE ck X.N sc cc z && mE ck X.N sc a x) && mE ck X.N sc b y) = true from hm)
    obtain ⟨h1, h2⟩ := ba h12
    refine ⟨_, pe_ifExp ptB peB peB, ?_⟩
    refine hc X W z sc EN hsc h1 m G H h σ t _ r s rs (Good.mono (Good.bind s g) fun rv m1 G1 H1 s1 ⟨h', _, r1, _, g1⟩ => ?_)
    split at g1
    · refine ⟨true, rfl, ?_⟩
      show if true = true then _ else _
      rw [if_pos rfl]
      exact ha X W x sc EN hsc h2 m1 G1 H1 h' σ t _ r1 s1.sub2 (rs.step r s1) (Good.mono (Good.later s1 g1) fun rv m2 G2 H2 s2 k v q => k v (RR.early s1 q fun a ha => s2.mem ha))
    · refine ⟨false, rfl, ?_⟩
      show if false = true then _ else _
      rw [if_neg Bool.false_ne_true]
      exact hb X W y sc EN hsc h3 m1 G1 H1 h' σ t _ r1 s1.sub2 (rs.step r s1) (Good.mono (Good.later s1 g1) fun rv m2 G2 H2 s2 k v q => k v (RR.early s1 q fun a ha => s2.mem ha))
    · exact g1.elim
  | _ => exact Bool.noConfusion (show false = true from hm)
/-- an if-expression as a test -/
theorem pt_ifE {X : Cx} {z x y : Expr} {tz tx ty : TT} {pos : Pos} (hz : PT X z tz) (hx : PT X x tx) (hy : PT X y ty) : PT X (.IfExp z x y pos) (fun σ H Q => tz σ H fun k H1 => if k = true then tx σ H1 Q else ty σ H1 Q) := by
  refine ⟨fun pins s σ H Q I h => ?_⟩
  show wpAny _ _ (do
    if ← isTrue z X.env (eval z X.env) then isTrue x X.env (eval x X.env) else isTrue y X.env (eval y X.env)) _ _ s
  refine wpAny_bind (thn (hz.run pins s σ H _ I h) fun k s1 ⟨H1, I1, q⟩ => ?_)
  cases k with
  | true => exact hx.run pins s1 σ H1 Q I1 q
  | false => exact hy.run pins s1 σ H1 Q I1 q
theorem st_ife {cc a b : I} (hc : ST ck c tb n cc) (ha : ST ck c tb n a) (hb : ST ck c tb n b) : ST ck c tb n (.ife cc a b) := by
  intro X W x sc EN hsc hm m G H h σ t Q r s rs g
  cases x with
  | IfExp z x y pos =>
    obtain ⟨h12, h3⟩ := ba (show ((mE ck X.N sc cc z && mE ck X.N sc a x) && mE ck X.N sc b y) = true from hm)
    obtain ⟨h1, h2⟩ := ba h12
    refine ⟨_, pt_ifE ptB ptB ptB, ?_⟩
    refine hc X W z sc EN hsc h1 m G H h σ t _ r s rs (Good.mono (Good.bind s g) fun rv m1 G1 H1 s1 ⟨h', _, r1, _, g1⟩ => ?_)
    split at g1
    · refine ⟨true, rfl, ?_⟩
      show if true = true then _ else _
      rw [if_pos rfl]
      exact ha X W x sc EN hsc h2 m1 G1 H1 h' σ t _ r1 s1.sub2 (rs.step r s1) (Good.later s1 g1)
    · refine ⟨false, rfl, ?_⟩
      show if false = true then _ else _
      rw [if_neg Bool.false_ne_true]
      exact hb X W y sc EN hsc h3 m1 G1 H1 h' σ t _ r1 s1.sub2 (rs.step r s1) (Good.later s1 g1)
    · exact g1.elim
  | _ => exact Bool.noConfusion (show false = true from hm)
end
end Cw
end

section
set_option Elab.async false
set_option linter.all false
set_option maxRecDepth 100000
set_option maxHeartbeats 4000000
/-! Cw13: subscripts, calls, methods. -/
namespace Cw
open PySem PySem.Spec PyProof.Rows L2

section
variable {ck : Ck} {c : Cs} {tb : Tb} {n : Nat}
theorem plain_ix {b : Expr} (h : isWith b = true) : PlainIx b := by
  intro o i
  cases b <;> first | rfl | cases h
theorem se_ix {a i : I} (ha : SE ck c tb n a) (hi : SE ck c tb n i) : SE ck c tb n (.ix a i) := by
  intro X W x sc EN hsc hm m G H h σ t Q r s rs g
  cases x with
  | Subscript x y pos =>
    obtain ⟨h1, h2⟩ := ba (show (mE ck X.N sc a x && mE ck X.N sc i y) = true from hm)
    refine ⟨_, pe_ix ixB peB peB (plain_ix (mE_plain i h2)), ?_⟩
    refine ha X W x sc EN hsc h1 m G H h σ t _ r s rs (Good.mono (Good.bind s g) fun rv m1 G1 H1 s1 ⟨h1, _, r1, _, g1⟩ v q => ?_)
    refine hi X W y sc EN hsc h2 m1 G1 H1 h1 σ t _ r1 s1.sub2 (rs.step r s1) (Good.mono (Good.bindL s1 g1) fun rw' m2 G2 H2 s2 ⟨h2, _, r2, s02, g2⟩ w q2 => ?_)
    split at g2
    · obtain ⟨z, ez, g3⟩ := Good.ofO g2
      obtain ⟨d, ed, ez⟩ := map_some ez
      subst ez
      exact ix_ok (by have := EN.units; omega) ed s2.sub2 r2 (RR.step r1 s2 q) q2 fun v3 q3 => g3 m2 G2 H2 s02 r2 v3 q3
    · exact g2.elim
  | _ => exact Bool.noConfusion (show false = true from hm)

/-! ### slices -/
def bP (X : Cx) (e : Option Expr) : TO := fun σ H Q => ∃ t, PO X e t ∧ t σ H Q
theorem poB {X : Cx} {e : Option Expr} : PO X e (bP X e) := ⟨fun pins s σ H Q I ⟨t, h, q⟩ => h.run pins s σ H Q I q⟩
def mPart (ck : Ck) (N : List Str) (sc : Scope) (l : Option Expr) (lo : I) : Bool := match l with
  | none => lo.isNo
  | some l => mE ck N sc lo l
theorem notNo {N : List Str} {sc : Scope} {e : I} {x : Expr} (h : mE ck N sc e x = true) : e.isNo = false := by
  cases e <;> first | rfl | (cases x <;> exact Bool.noConfusion (show false = true from h))
theorem mE_sl {N : List Str} {sc : Scope} {a lo hi : I} {x : Expr} {l u : Option Expr} {p2 pos : Pos} : mE ck N sc (.sl a lo hi) (.Subscript x (.Slice l u none p2) pos) = ((mE ck N sc a x && mPart ck N sc l lo) && mPart ck N sc u hi) := by
  cases l <;> cases u <;> rfl
theorem intOf_eq {rv : RV} {i : Int} (e : intOf rv = some i) : rv = .d (.int i) := by
  cases rv with
  | d d => cases d with
    | int j => cases e; rfl
    | _ => cases e
  | _ => cases e
theorem sp_ok {lo : I} (hl : SE ck c tb n lo) {X : Cx} {W : WX} {l : Option Expr} {sc : Scope} (EN : Env1 ck c tb n X W) (hsc : X.env.scope = sc) (hm : mPart ck X.N sc l lo = true) {m : List Addr} {G H : Hp} {h : Hh} {σ : Sg} {t : L2.St} {Q : Option Int → Hp → Prop} (r : Rel X.K m h G) (s : Sub G H) (rs : RS X.K m G σ t)
    (g : Good c X.K m G H (fun C d H' => W C d t H') (ev (runB tb n) lo σ h) (fun rv m' G' H' => ∃ o, bound lo.isNo rv = some o ∧ Q o H')) : bP X l t H Q := by
  cases l with
  | none =>
    have hm : lo.isNo = true := hm
    cases lo with
    | no =>
      obtain ⟨o, e, q⟩ := g m G H (.refl s) r
      cases e
      exact ⟨_, po_none, q⟩
    | _ => cases hm
  | some x =>
    have hm : mE ck X.N sc lo x = true := hm
    refine ⟨_, po_some peB, ?_⟩
    refine hl X W x sc EN hsc hm m G H h σ t _ r s rs (Good.mono g fun rv m1 G1 H1 s1 ⟨o, e, q⟩ v qv => ?_)
    rw [notNo hm] at e
    have e : (intOf rv).map some = some o := e
    obtain ⟨i, e1, e2⟩ := map_some e
    subst e2
    cases intOf_eq e1
    exact ⟨_, RD.int_of qv, q⟩
theorem se_sl {a lo hi : I} (ha : SE ck c tb n a) (hl : SE ck c tb n lo) (hh : SE ck c tb n hi) : SE ck c tb n (.sl a lo hi) := by
  intro X W x sc EN hsc hm m G H h σ t Q r s rs g
  cases x with
  | Subscript x y pos =>
    cases y with
    | Slice l u st pos2 =>
      cases st with
      | some _ => exact Bool.noConfusion (show false = true from hm)
      | none =>
        rw [mE_sl] at hm
        obtain ⟨h12, h3⟩ := ba hm
        obtain ⟨h1, h2⟩ := ba h12
        refine ⟨_, pe_slice slB peB poB poB, ?_⟩
        refine ha X W x sc EN hsc h1 m G H h σ t _ r s rs (Good.mono (Good.bind s g) fun rv m1 G1 H1 s1 ⟨h1, _, r1, _, g1⟩ v q => ?_)
        refine sp_ok hl EN hsc h2 r1 s1.sub2 (rs.step r s1) (Good.mono (Good.bindL s1 g1) fun rl m2 G2 H2 s2 ⟨h2, _, r2, s02, g2⟩ => ?_)
        split at g2
        · exact g2.elim
        · rename_i o e1
          refine ⟨o, e1, ?_⟩
          refine sp_ok hh EN hsc h3 r2 s2.sub2 ((rs.step r s1).step r1 s2) (Good.mono (Good.bindL s02 g2) fun rr m3 G3 H3 s3 ⟨h3, _, r3, s03, g3⟩ => ?_)
          split at g3
          · exact g3.elim
          · rename_i o2 e2
            refine ⟨o2, e2, ?_⟩
            obtain ⟨z, ez, g4⟩ := Good.ofO g3
            exact sl_ok ez s3.sub2 r3 (RR.step r2 s3 (RR.step r1 s2 q)) fun m4 G4 H4 s4 r4 v4 q4 => g4 m4 G4 H4 (Stp.trans ((s1.trans s2).trans s3) s4) r4 v4 (RR.early ((s1.trans s2).trans s3) q4 fun a ha => s4.mem ha)
    | _ => exact Bool.noConfusion (show false = true from hm)
  | _ => exact Bool.noConfusion (show false = true from hm)
theorem se_rev {a : I} (ha : SE ck c tb n a) : SE ck c tb n (.rev a) := by
  intro X W x sc EN hsc hm m G H h σ t Q r s rs g
  have inv : ∃ y k p1 p2 p3 pos, x = .Subscript y (.Slice none none (some (.UnaryOp .USub (.Constant (.int 1) k p1) p2)) p3) pos ∧ mE ck X.N sc a y = true := by
    cases x with
    | Subscript y sl pos => cases sl with
      | Slice l u st p3 => cases l with
        | some _ => cases u <;> cases st <;> exact Bool.noConfusion (show false = true from hm)
        | none => cases u with
          | some _ => cases st <;> exact Bool.noConfusion (show false = true from hm)
          | none => cases st with
            | none => exact Bool.noConfusion (show false = true from hm)
            | some st => cases st with
              | UnaryOp op e p2 => cases op with
                | USub => cases e with
                  | Constant cc k p1 => cases cc with
                    | int j =>
                      obtain ⟨h1, h2⟩ := ba (show (decide (j = 1) && mE ck X.N sc a y) = true from hm)
                      have e : j = 1 := of_decide_eq_true h1
                      subst e
                      exact ⟨y, k, p1, p2, p3, pos, rfl, h2⟩
                    | _ => exact Bool.noConfusion (show false = true from hm)
                  | _ => exact Bool.noConfusion (show false = true from hm)
                | _ => exact Bool.noConfusion (show false = true from hm)
              | _ => exact Bool.noConfusion (show false = true from hm)
      | _ => exact Bool.noConfusion (show false = true from hm)
    | _ => exact Bool.noConfusion (show false = true from hm)
  obtain ⟨y, k, p1, p2, p3, pos, rfl, h2⟩ := inv
  refine ⟨_, Cx1.pe_back peB, ?_⟩
  refine ha X W y sc EN hsc h2 m G H h σ t _ r s rs (Good.mono (Good.bind s g) fun rv m1 G1 H1 s1 ⟨h1, _, r1, _, g1⟩ v q => ?_)
  obtain ⟨z, ez, g2⟩ := Good.ofO g1
  by_cases ht : ∃ xs, rv = .d (.tup xs)
  · obtain ⟨xs, rfl⟩ := ht
    obtain rfl : RV.d (.tup xs.reverse) = z := Option.some.inj ez
    obtain ⟨a', vs, rfl, hq, l⟩ := RD.tup_of q
    refine ⟨a', vs, rfl, .inr ⟨SqT.sub s1.sub2 hq, fun p np => ?_⟩⟩
    exact Then.tup (X := X) (Q := Q) (fun m4 G4 H4 s4 r4 v4 q4 => g2 m4 G4 H4 (Stp.trans s1 s4) r4 v4 (RR.early s1 q4 fun a ha => s4.mem ha)) s1.sub2 r1 l.rev np
  · have ez : (rv.lisc h1).map (fun xs => RV.lst xs.reverse) = some z := by
      rw [← ez]
      unfold revOp
      split
      · exact absurd ⟨_, rfl⟩ ht
      · rfl
    obtain ⟨xs, e1, e2⟩ := map_some ez
    subst e2
    obtain ⟨a', vs, rfl, hq, l⟩ := RR.lisc s1.sub2 r1 q e1
    refine ⟨a', vs, rfl, .inl ⟨hq, fun p np => ?_⟩⟩
    exact Then.lst (X := X) (Q := Q) (fun m4 G4 H4 s4 r4 v4 q4 => g2 m4 G4 H4 (Stp.trans s1 s4) r4 v4 (RR.early s1 q4 fun a ha => s4.mem ha)) s1.sub2 r1 l.rev np

/-! ### calls -/
theorem kws_of {N : List Str} {sc : Scope} {env : Env} {pos : Pos} : ∀ {ks : List Str} {es : List I} {kws : List Keyword}, mKs ck N sc ks es kws = true →
    (backToKw pos (keywordEach kws env)).all (·.1.isSome) = true ∧ (backToKw pos (keywordEach kws env)).filterMap (·.1) = ks ∧ (backToKw pos (keywordEach kws env)).any (·.1.isNone) = false ∧ es.length = ks.length
  | [], [], [], _ => ⟨rfl, rfl, rfl, rfl⟩
  | k :: ks, e :: es, ⟨nm, x, p⟩ :: kws, h => by
    obtain ⟨h12, h3⟩ := ba (show ((decide (nm = some k) && mE ck N sc e x) && mKs ck N sc ks es kws) = true from h)
    obtain ⟨h1, _⟩ := ba h12
    have en : nm = some k := of_decide_eq_true h1
    subst en
    obtain ⟨i1, i2, i3, i4⟩ := kws_of (env := env) (pos := pos) h3
    refine ⟨?_, ?_, ?_, by rw [List.length_cons, List.length_cons, i4]⟩
    · show (true && (backToKw pos (keywordEach kws env)).all (·.1.isSome)) = true
      rw [i1]; rfl
    · show k :: (backToKw pos (keywordEach kws env)).filterMap (·.1) = k :: ks
      rw [i2]
    · show (false || (backToKw pos (keywordEach kws env)).any (·.1.isNone)) = false
      rw [i3]; rfl
  | [], [], _ :: _, h => by cases h
  | [], _ :: _, [], h => by cases h
  | [], _ :: _, _ :: _, h => by cases h
  | _ :: _, [], [], h => by cases h
  | _ :: _, [], _ :: _, h => by cases h
  | _ :: _, _ :: _, [], h => by cases h
theorem backTo_any {pos : Pos} {l : List (Bool × Sem Value)} : (backTo pos l).any (·.1) = l.any (·.1) := by
  unfold backTo
  rw [List.any_map]
  rfl
theorem isFn_of {f : Nat} {x : Str} {k : Nat} {ks : List Str} (h : ck.isFn f x k ks = true) : ∃ ps, (f, x, ps) ∈ ck.fns ∧ ps.drop k = ks ∧ k + ks.length = ps.length := by
  obtain ⟨p, hp, h2⟩ := List.any_eq_true.mp h
  obtain ⟨h2, h6⟩ := ba h2
  obtain ⟨h2, h5⟩ := ba h2
  obtain ⟨h3, h4⟩ := ba h2
  obtain ⟨a, b, d⟩ := p
  have e1 : a = f := of_decide_eq_true h3
  have e2 : b = x := of_decide_eq_true h4
  subst e1 e2
  exact ⟨d, hp, of_decide_eq_true h5, of_decide_eq_true h6⟩
theorem se_call {md : Bool} {f : Nat} {y : Str} {es zs : List I} {ks : List Str} (he : SEs ck c tb n es) (hk : SKs ck c tb n zs) : SE ck c tb n (.call md f y es ks zs) := by
  intro X W x sc EN hsc hm m G H h σ t Q r s rs g
  cases x with
  | Call fx xs kws pos =>
    cases fx with
    | Name x p =>
      obtain ⟨h1, h6⟩ := ba (show (((((decide (x = y) && gl sc y) && okName y) && mEs ck X.N sc es xs) && mKs ck X.N sc ks zs kws) && ck.isFn f y es.length ks) = true from hm)
      obtain ⟨h1, h5⟩ := ba h1
      obtain ⟨h1, h4⟩ := ba h1
      obtain ⟨h1, h3⟩ := ba h1
      obtain ⟨h1, h2⟩ := ba h1
      have e : x = y := of_decide_eq_true h1
      subst e
      obtain ⟨ps, hp, e1, e2⟩ := isFn_of h6
      obtain ⟨fa, fd, g1, g2, g3, g4⟩ := EN.fns f x ps hp
      obtain ⟨k1, k2, k3, k4⟩ := kws_of (env := X.env) (pos := pos) h5
      have hl := mEs_len h4
      have hst := plain_star (env := X.env) h4
      have fin : ∀ (m2 : List Addr) (G2 H2 : Hp) (h2 : Hh) (ds zs : List D) (vs ws : List V), Stp m G H m2 G2 H2 → Rel X.K m2 h2 G2 → RDs X.K m2 G2 ds vs → RDs X.K m2 G2 zs ws →
          Good c X.K m G H (fun C d H' => W C d t H') (callOp (runB tb n) md f (ds ++ zs) h2) (fun rv m' G' H' => ∀ v, RR X.K H m' G' H' rv v → Q v H') → spF c tb X.K n f (vs ++ ws) H2 Q (fun C d H' => W C d t H') := fun m2 G2 H2 h2 ds zs vs ws s2 r2 l1 l2 g => by
        exact call_ok r2 s2.sub2 (l1.app l2) (Good.mono (Good.later s2 g) fun rv m3 G3 H3 s3 k v q => k v (RR.early s2 q fun a ha => s3.mem ha))
      cases xs with
      | nil =>
        cases es with
        | cons _ _ => cases hl
        | nil =>
          refine ⟨_, pe_callX0 g4 EN.room EN.gd (gl_of hsc h2) g1 g2 g3 EN.takes pkB k1 (by rw [k2, ← e1]; rfl) (okName_dbg h3) (by rw [k3]; rfl), ?_⟩
          refine hk X W ks kws sc EN hsc h5 m G H h σ t _ r s rs (Good.mono (Good.bind s (show Good c X.K m G H (fun C d H' => W C d t H') ((evs (runB tb n) zs σ h).bind fun zs h => callOp (runB tb n) md f ([] ++ zs) h) _ from g)) fun dz m2 G2 H2 s2 ⟨h2, _, r2, s02, g2⟩ ws l2 => ?_)
          exact fin m2 G2 H2 h2 [] dz [] ws s2 r2 .nil l2 g2
      | cons x1 xs =>
        refine ⟨_, pe_callX g4 EN.room EN.gd (gl_of hsc h2) g1 g2 g3 EN.takes paB pkB k1 (by rw [k2, ← e1, hl]; rfl) (okName_dbg h3) ?_ ?_, ?_⟩
        · cases es with
          | nil => cases hl
          | cons ea es => exact star_of (mE_plain ea (ba (show (mE ck X.N sc ea x1 && mEs ck X.N sc es xs) = true from h4)).1)
        · rw [backTo_any, hst, k3]; rfl
        · refine he X W (x1 :: xs) sc EN hsc h4 m G H h σ t _ r s rs (Good.mono (Good.bind s g) fun ds m1 G1 H1 s1 ⟨h1, ed, r1, _, g1⟩ vs l1 => ?_)
          refine ⟨by rw [← l1.length, evs_len ed, hl]; rfl, ?_⟩
          refine hk X W ks kws sc EN hsc h5 m1 G1 H1 h1 σ t _ r1 s1.sub2 (rs.step r s1) (Good.mono (Good.bindL s1 g1) fun dz m2 G2 H2 s2 ⟨h2, _, r2, s02, g2⟩ ws l2 => ?_)
          exact fin m2 G2 H2 h2 ds dz vs ws (s1.trans s2) r2 (l1.step r1 s2) l2 g2
    | _ => exact Bool.noConfusion (show false = true from hm)
  | _ => exact Bool.noConfusion (show false = true from hm)
end
end Cw
end

section
set_option Elab.async false
set_option linter.all false
set_option maxRecDepth 100000
set_option maxHeartbeats 4000000
/-! Cw14: built-in functions, isinstance, methods, new objects that change. -/
namespace Cw
open PySem PySem.Spec PyProof.Rows L2

section
variable {ck : Ck} {c : Cs} {tb : Tb} {n : Nat}
theorem boot_bi (b : Bi) : bootBuiltins (biName b) = some (biVal b) := by
  cases b <;> decide +kernel
theorem biName_ok (b : Bi) : biName b ≠ "__name__" ∧ (biName b == ("__debug__" : Str)) = false := by
  cases b <;> decide +kernel
theorem isFree_of {x : Str} {X : Cx} {W : WX} (EN : Env1 ck c tb n X W) {sc : Scope} (hsc : X.env.scope = sc) (h : bltn ck sc x = true) : Gl X x ∧ X.mg x = none := by
  obtain ⟨h1, h2⟩ := ba h
  exact ⟨gl_of hsc h1, EN.free x h2⟩
theorem se_bi {b : Bi} {es : List I} (he : SRs ck c tb n es) : SE ck c tb n (.bi b es) := by
  intro X W x sc EN hsc hm m G H h σ t Q r s rs g
  cases x with
  | Call fx xs kws pos =>
    cases fx with
    | Name x p =>
      cases kws with
      | cons _ _ => exact Bool.noConfusion (show false = true from hm)
      | nil =>
        obtain ⟨h1, h4⟩ := ba (show (((decide (x = biName b) && bltn ck sc x) && !xs.isEmpty) && mEs ck X.N sc es xs) = true from hm)
        obtain ⟨h1, h3⟩ := ba h1
        obtain ⟨h1, h2⟩ := ba h1
        have e : x = biName b := of_decide_eq_true h1
        subst e
        obtain ⟨k1, k2⟩ := isFree_of EN hsc h2
        cases xs with
        | nil => cases h3
        | cons x1 xs =>
          have hst := plain_star (env := X.env) h4
          have hs1 : starEach (x1 :: xs) X.env = (false, eval x1 X.env) :: starEach xs X.env := by
            cases es with
            | nil => cases h4
            | cons ea es => exact star_of (mE_plain ea (ba (show (mE ck X.N sc ea x1 && mEs ck X.N sc es xs) = true from h4)).1)
          have hpl : (backTo pos (starEach xs X.env)).any (·.1) = false := by
            rw [backTo_any]
            rw [hs1] at hst
            simpa using hst
          have body : bA X (x1 :: xs) t H fun vs H1 => bCall X (biVal b) vs H1 Q :=
            he X W (x1 :: xs) sc EN hsc h4 m G H h σ t _ r s rs (Good.mono (Good.bind s g) fun rvs m1 G1 H1 s1 ⟨h1, _, r1, _, g1⟩ vs l => by
              obtain ⟨z, ez, g2⟩ := Good.ofO g1
              exact bi_ok EN.calm (by have := EN.units; omega) ez s1.sub2 r1 l fun m4 G4 H4 s4 r4 v4 q4 => g2 m4 G4 H4 (Stp.trans s1 s4) r4 v4 (RR.early s1 q4 fun a ha => s4.mem ha))
          have isB : (∃ id, biVal b = .builtin id) ∨ ∃ T, biVal b = .type T := by cases b <;> first | exact .inl ⟨_, rfl⟩ | exact .inr ⟨_, rfl⟩
          have bb := boot_bi b
          rcases isB with ⟨id, e⟩ | ⟨T, e⟩
          · rw [e] at bb body
            exact ⟨_, pe_callB callB k1 k2 bb paB (biName_ok b).1 (biName_ok b).2 hs1 hpl, body⟩
          · rw [e] at bb body
            exact ⟨_, pe_callTy callB k1 k2 bb paB (biName_ok b).1 (biName_ok b).2 hs1 hpl, body⟩
    | _ => exact Bool.noConfusion (show false = true from hm)
  | _ => exact Bool.noConfusion (show false = true from hm)

/-! ### isinstance -/
def tyOfD : D → String
  | .non => "NoneType" | .bl _ => "bool" | .int _ => "int" | .str _ => "str" | .tup _ => "tuple" | .fl _ => "list" | .sc _ => "list" | .ref _ => ""
def tyStr : Ty → String
  | .int => "int" | .bool => "bool" | .str => "str" | .tuple => "tuple" | .list => "list" | .dict => "dict"
theorem boot_ty (t : Ty) : bootBuiltins (tyName t) = some (.type (tyStr t)) := by cases t <;> decide +kernel
theorem tyName_ok (t : Ty) : tyName t ≠ "__name__" ∧ (tyName t == ("__debug__" : Str)) = false := by cases t <;> decide +kernel
theorem kit_ty (K : PySem.W.Frag) (t : Ty) (d : D) (h : ∀ k, d ≠ .ref k) : PySem.W.kitOne K (.type (tyOfD d)) (.type (tyStr t)) = some (isTy t d) := by
  cases d with
  | ref k => exact absurd rfl (h k)
  | _ => cases t <;> rfl
theorem kit_list (K : PySem.W.Frag) (t : Ty) : PySem.W.kitOne K (.type "list") (.type (tyStr t)) = some (decide (t = Ty.list)) := by cases t <;> rfl
theorem kit_dict (K : PySem.W.Frag) (t : Ty) : PySem.W.kitOne K (.type "dict") (.type (tyStr t)) = some (decide (t = Ty.dict)) := by cases t <;> rfl
theorem RD.ty {K : PySem.W.Frag} {m : List Addr} {G H : Hp} {d : D} {v : V} (s : Sub G H) (q : RD K m G d v) (h : ∀ k, d ≠ .ref k) : TyX K H v (.type (tyOfD d)) := by
  cases q with
  | non => exact .base .non
  | bl b => exact .base (.bl b)
  | int b => exact .base (.int b)
  | str b => exact .base (.str b)
  | tup q _ =>
    rcases q with (e | ⟨o, e⟩) | ⟨o, its, k, e, e2, _⟩
    · exact .base (.tup (s _ _ e))
    · exact .fTuple (s _ _ e)
    · exact .kTuple e e2
  | fl q _ _ => exact .base (.lst (s _ _ q))
  | sc q _ =>
    rcases q with ⟨o, e⟩ | ⟨o, its, k, e, e2, _⟩ | ⟨e, _⟩
    · exact .base (.frz (s _ _ e))
    · exact .kList e e2
    · exact .base (.lst (s _ _ e))
  | ref _ => exact absurd rfl (h _)
theorem isiT_inv {sc : Scope} {ts : List Ty} {t : Expr} (h : isiT ck sc ts t = true) : ∃ ty z p, ts = [ty] ∧ t = .Name z p ∧ (decide (z = tyName ty) && bltn ck sc z) = true := by
  unfold isiT at h
  split at h
  · exact ⟨_, _, _, rfl, rfl, h⟩
  · cases h
theorem se_isi {a : I} {ts : List Ty} (ha : SE ck c tb n a) : SE ck c tb n (.isi a ts) := by
  intro X W x sc EN hsc hm m G H h σ t Q r s rs g
  have inv : ∃ p x1 p2 pos ty, x = .Call (.Name "isinstance" p) [x1, .Name (tyName ty) p2] [] pos ∧ ts = [ty] ∧ bltn ck sc ("isinstance" : Str) = true ∧ mE ck X.N sc a x1 = true ∧ bltn ck sc (tyName ty) = true := by
    cases x with
    | Call fx xs kws pos =>
      cases fx with
      | Name y p =>
        cases kws with
        | cons _ _ => cases xs with
          | nil => exact Bool.noConfusion (show false = true from hm)
          | cons _ xs => cases xs with
            | nil => exact Bool.noConfusion (show false = true from hm)
            | cons _ xs => cases xs <;> exact Bool.noConfusion (show false = true from hm)
        | nil => cases xs with
          | nil => exact Bool.noConfusion (show false = true from hm)
          | cons x1 xs => cases xs with
            | nil => exact Bool.noConfusion (show false = true from hm)
            | cons t1 xs => cases xs with
              | cons _ _ => exact Bool.noConfusion (show false = true from hm)
              | nil =>
                obtain ⟨h1, h4⟩ := ba (show (((decide (y = ("isinstance" : Str)) && bltn ck sc y) && mE ck X.N sc a x1) && isiT ck sc ts t1) = true from hm)
                obtain ⟨h1, h3⟩ := ba h1
                obtain ⟨h1, h2⟩ := ba h1
                have e : y = ("isinstance" : Str) := of_decide_eq_true h1
                subst e
                obtain ⟨ty, z, p2, e1, e2, h4⟩ := isiT_inv h4
                subst e1 e2
                obtain ⟨h5, h6⟩ := ba h4
                have e : z = tyName ty := of_decide_eq_true h5
                subst e
                exact ⟨p, x1, p2, pos, ty, rfl, rfl, h2, h3, h6⟩
      | _ => exact Bool.noConfusion (show false = true from hm)
    | _ => exact Bool.noConfusion (show false = true from hm)
  obtain ⟨p, x1, p2, pos, ty, rfl, rfl, hb, h1, hb2⟩ := inv
  obtain ⟨k1, k2⟩ := isFree_of EN hsc hb
  obtain ⟨k3, k4⟩ := isFree_of EN hsc hb2
  refine ⟨_, pe_callB call_isi k1 k2 PyProof.Rows.boot_isinstance (pa_cons peB (pa_cons (pe_bltn k3 k4 (boot_ty ty) (v := .ty (tyStr ty)) rfl (tyName_ok ty).1 (tyName_ok ty).2) pa_nil) (star_of (mE_plain a h1))) (by decide) (by decide) (star_of (mE_plain a h1)) rfl, ?_⟩
  refine ha X W x1 sc EN hsc h1 m G H h σ t _ r s rs (Good.mono (Good.bind s g) fun rv m1 G1 H1 s1 ⟨h1, _, r1, _, g1⟩ v q => ?_)
  obtain ⟨z, ez, g2⟩ := bmk g1
  have q3 : Q (.bl z) H1 := g2 m1 G1 H1 s1 r1 _ (.bl _)
  have one : ∀ f : Ty → Bool, ([ty].any f) = f ty := fun f => by simp
  have dat : ∀ d : D, (∀ k, d ≠ .ref k) → RD X.K m1 G1 d v → z = isTy ty d → rIsi X.K [v, .ty (tyStr ty)] H1 Q := fun d hd qd e => by
    subst e
    exact ⟨v, .ty (tyStr ty), .type (tyOfD d), .type (tyStr ty), _, rfl, .ty _, RD.ty s1.sub2 qd hd, kit_ty X.K ty d hd, q3⟩
  cases rv with
  | d d =>
    cases d with
    | ref k =>
      obtain ⟨a', rfl, ha'⟩ := RD.ref_of q
      have ez : (match h1[k]? with | some (.lst _) => some ([ty].any fun t => decide (t = Ty.list)) | some (.dct _) => some ([ty].any fun t => decide (t = Ty.dict)) | none => none) = some z := ez
      cases w : h1[k]? with
      | none => rw [w] at ez; cases ez
      | some o =>
        rw [w] at ez
        cases o with
        | lst xs =>
          have ez := (one _).symm.trans (Option.some.inj ez)
          obtain ⟨vs, e1, _⟩ := r1.lst w ha'
          exact ⟨.ref a', .ty (tyStr ty), .type "list", .type (tyStr ty), z, rfl, .ty _, .base (.lst (s1.sub2 _ _ e1)), by rw [← ez]; exact kit_list X.K ty, q3⟩
        | dct xs =>
          have ez := (one _).symm.trans (Option.some.inj ez)
          obtain ⟨vs, e1, _⟩ := r1.dct w ha'
          exact ⟨.ref a', .ty (tyStr ty), .type "dict", .type (tyStr ty), z, rfl, .ty _, .base (.dK (s1.sub2 _ _ e1)), by rw [← ez]; exact kit_dict X.K ty, q3⟩
    | non => exact dat .non (fun k e => by cases e) q ((Option.some.inj ez).symm.trans (one _))
    | bl b => exact dat (.bl b) (fun k e => by cases e) q ((Option.some.inj ez).symm.trans (one _))
    | int b => exact dat (.int b) (fun k e => by cases e) q ((Option.some.inj ez).symm.trans (one _))
    | str b => exact dat (.str b) (fun k e => by cases e) q ((Option.some.inj ez).symm.trans (one _))
    | tup b => exact dat (.tup b) (fun k e => by cases e) q ((Option.some.inj ez).symm.trans (one _))
    | fl b => exact dat (.fl b) (fun k e => by cases e) q ((Option.some.inj ez).symm.trans (one _))
    | sc b => exact dat (.sc b) (fun k e => by cases e) q ((Option.some.inj ez).symm.trans (one _))
  | lst xs =>
    have ez := (one _).symm.trans (Option.some.inj ez)
    obtain ⟨a', vs, rfl, e1, _⟩ := q
    exact ⟨.ref a', .ty (tyStr ty), .type "list", .type (tyStr ty), z, rfl, .ty _, .base (.lst e1), by rw [← ez]; exact kit_list X.K ty, q3⟩
  | dct xs =>
    have ez := (one _).symm.trans (Option.some.inj ez)
    obtain ⟨a', vs, rfl, e1, _⟩ := q
    exact ⟨.ref a', .ty (tyStr ty), .type "dict", .type (tyStr ty), z, rfl, .ty _, .base (.dK e1), by rw [← ez]; exact kit_dict X.K ty, q3⟩

/-! ### methods of lists that change -/
theorem base_of {o : Expr} {a : Str} {env : Env} {w : Sem Value} (h : baseOk o = true) : attributeBase o a env w = w := by
  cases o with
  | Call f xs ks p =>
    cases xs with
    | nil => cases ks with
      | nil => cases h
      | cons _ _ => cases f <;> rfl
    | cons _ _ => cases f <;> rfl
  | _ => rfl
theorem lstAt_of {x : RV} {h : Hh} (e : lstAt x h = true) : ∃ k xs, x = .d (.ref k) ∧ h[k]? = some (.lst xs) := by
  cases x with
  | d d => cases d with
    | ref k =>
      have e : (match h[k]? with | some (.lst _) => true | _ => false) = true := e
      cases z : h[k]? with
      | none => rw [z] at e; cases e
      | some o => cases o with
        | lst xs => exact ⟨k, xs, rfl, z⟩
        | dct _ => rw [z] at e; cases e
    | _ => cases e
  | _ => cases e
/-- a method of lists that I knows -/
structure MtK (k : Mt) : Prop where
  slot : Slot "list" (mtName k) (mtId k)
  ty : typeOf (.builtin (mtId k)) = pure (.type "method_descriptor")
theorem mtK_append : MtK .append := ⟨PySem.F.slot_list_append, PySem.F.type_list_append⟩
theorem mtK_extend : MtK .extend := ⟨PySem.F.slot_list_extend, PySem.F.type_list_extend⟩
theorem mtK_pop : MtK .pop := ⟨PySem.F.slot_list_pop, PySem.F.type_list_pop⟩
theorem mtK_of {k : Mt} (h : mtIs k = true) : MtK k := by
  cases k with
  | append => exact mtK_append
  | extend => exact mtK_extend
  | pop => exact mtK_pop
  | _ => cases h
theorem se_mth {k : Mt} {o : I} {es : List I} (ho : SE ck c tb n o) (he : SEs ck c tb n es) : SE ck c tb n (.mth k o es) := by
  intro X W x sc EN hsc hm m G H h σ t Q r s rs g
  cases x with
  | Call fx xs kws cpos =>
    cases fx with
    | Attribute x nm apos =>
      cases kws with
      | cons _ _ => exact Bool.noConfusion (show false = true from hm)
      | nil =>
        obtain ⟨h1, h7⟩ := ba (show ((((((decide (nm = mtName k) && decide ((apos.endLine == cpos.line) = true)) && baseOk x) && mE ck X.N sc o x) && mEs ck X.N sc es xs) && decide (xs.length < 20)) && mtIs k) = true from hm)
        obtain ⟨h1, h6⟩ := ba h1
        obtain ⟨h1, h5⟩ := ba h1
        obtain ⟨h1, h4⟩ := ba h1
        obtain ⟨h1, h3⟩ := ba h1
        obtain ⟨h1, h2⟩ := ba h1
        have hk := mtK_of h7
        have e : nm = mtName k := of_decide_eq_true h1
        subst e
        have hline : (apos.endLine == cpos.line) = true := of_decide_eq_true h2
        have hlen : xs.length < 20 := of_decide_eq_true h6
        have step : ∀ (rv : RV) (m1 : List Addr) (G1 H1 : Hp) (h1 : Hh) (v : V), Stp m G H m1 G1 H1 → Rel X.K m1 h1 G1 → RR X.K H m1 G1 H1 rv v →
            Good c X.K m G H (fun C d H' => W C d t H') (if lstAt rv h1 then (evs (runB tb n) es σ h1).bind fun ds h => match mtOp k rv ds h with | some (y, h) => .ok y h | none => .stuck else .stuck) (fun rv m' G' H' => ∀ v, RR X.K H m' G' H' rv v → Q v H') →
            tyV X.K "list" v H1 ∧ bA X xs t H1 fun vs H2 => bMt X (mtId k) v vs H2 Q := fun rv m1 G1 H1 h1 v s1 r1 q g1 => by
          by_cases hl : lstAt rv h1 = true
          · rw [if_pos hl] at g1
            obtain ⟨j, ys, ev, ej⟩ := lstAt_of hl
            subst ev
            obtain ⟨a, rfl, ha⟩ := RD.ref_of q
            obtain ⟨ws, e1, _⟩ := r1.lst ej ha
            refine ⟨.inl ⟨rfl, ws, SqL.of (s1.sub2 _ _ e1)⟩, ?_⟩
            refine he X W xs sc EN hsc h5 m1 G1 H1 h1 σ t _ r1 s1.sub2 (rs.step r s1) (Good.mono (Good.bindL s1 g1) fun ds m2 G2 H2 s2 ⟨h2, _, r2, s02, g2⟩ vs l => ?_)
            split at g2
            · rename_i y h3 ey
              refine (mt_ok (X := X) ey s2.sub2 r2 (RR.step r1 s2 q) l fun m4 G4 H4 s4 r4 v4 q4 => ?_).2
              exact g2 m4 G4 H4 (Stp.trans (s1.trans s2) s4) r4 v4 (RR.early (s1.trans s2) q4 fun a ha => s4.mem ha)
            · exact g2.elim
          · rw [if_neg hl] at g1; exact g1.elim
        cases xs with
        | nil =>
          refine ⟨_, pe_bm0 PySem.F.plainAttrs_list hk.slot hk.ty mtB peB (base_of h3) hline, ?_⟩
          refine ho X W x sc EN hsc h4 m G H h σ t _ r s rs (Good.mono (Good.bind s g) fun rv m1 G1 H1 s1 ⟨hh1, _, r1, _, g1⟩ v q => ?_)
          obtain ⟨k1, t', k2, k3⟩ := step rv m1 G1 H1 hh1 v s1 r1 q g1
          refine ⟨k1, ?_⟩
          cases es with
          | cons _ _ => cases h5
          | nil =>
            -- no argument
            by_cases hl : lstAt rv hh1 = true
            · rw [if_pos hl] at g1
              have g2 : Good c X.K m G H (fun C d H' => W C d t H') (match mtOp k rv [] hh1 with | some (y, h) => R.ok y h | none => .stuck) (fun rv m' G' H' => ∀ v, RR X.K H m' G' H' rv v → Q v H') := g1
              split at g2
              · rename_i y h3 ey
                exact (mt_ok (X := X) ey s1.sub2 r1 q .nil fun m4 G4 H4 s4 r4 v4 q4 => g2 m4 G4 H4 (Stp.trans s1 s4) r4 v4 (RR.early s1 q4 fun a ha => s4.mem ha)).2
              · exact g2.elim
            · rw [if_neg hl] at g1; exact g1.elim
        | cons x1 xs =>
          have hst := plain_star (env := X.env) h5
          have hs1 : starEach (x1 :: xs) X.env = (false, eval x1 X.env) :: starEach xs X.env := by
            cases es with
            | nil => cases h5
            | cons ea es => exact star_of (mE_plain ea (ba (show (mE ck X.N sc ea x1 && mEs ck X.N sc es xs) = true from h5)).1)
          have hpl : (backTo cpos (starEach xs X.env)).any (·.1) = false := by
            rw [backTo_any]
            rw [hs1] at hst
            simpa using hst
          have hfew : ((backTo cpos (starEach (x1 :: xs) X.env)).all (fun x => !x.1) && (backToKw cpos (keywordEach [] X.env)).all (fun x => x.1.isSome)
              && decide ((x1 :: xs).length + ([] : List Keyword).length + (if ([] : List Keyword).isEmpty then 0 else 1) < 30)) = true := by
            have e1 : (backTo cpos (starEach (x1 :: xs) X.env)).all (fun x => !x.1) = true := by
              have := hst
              rw [← backTo_any (pos := cpos)] at this
              rw [List.all_eq_not_any_not]
              simpa using this
            rw [e1]
            have e2 : (backToKw cpos (keywordEach [] X.env)).all (fun x => x.1.isSome) = true := rfl
            rw [e2]
            have : (x1 :: xs).length + ([] : List Keyword).length + (if ([] : List Keyword).isEmpty then 0 else 1) < 30 := by
              show (x1 :: xs).length + 0 + 0 < 30
              omega
            rw [decide_eq_true this]
            rfl
          refine ⟨_, pe_bm PySem.F.plainAttrs_list hk.slot hk.ty mtB peB paB (base_of h3) hfew hline hs1 hpl, ?_⟩
          refine ho X W x sc EN hsc h4 m G H h σ t _ r s rs (Good.mono (Good.bind s g) fun rv m1 G1 H1 s1 ⟨h1, _, r1, _, g1⟩ v q => ?_)
          exact step rv m1 G1 H1 h1 v s1 r1 q g1
    | _ => exact Bool.noConfusion (show false = true from hm)
  | _ => exact Bool.noConfusion (show false = true from hm)
end
end Cw
end

section
set_option Elab.async false
set_option linter.all false
set_option maxRecDepth 100000
set_option maxHeartbeats 4000000
/-! Cw15: new objects that change; what is walked. -/
namespace Cw
open PySem PySem.Spec PyProof.Rows L2

section
variable {ck : Ck} {c : Cs} {tb : Tb} {n : Nat} {K : PySem.W.Frag} {m m1 m' : List Addr} {G H G1 H1 G' H' : Hp} {h h1 : Hh}
/-- a new object is shown, as one that changes -/
theorem Stp.box1 (s : Stp m G H m1 G1 H1) {p : Addr} {o : HO} (e : H1 p = some o) (n : H p = none) (g : G1 p = none) : Stp m G H (m1 ++ [p]) (upd G1 p o) H1 := by
  have t := s.show1 e n g
  refine ⟨t.sub, t.sub2, ?_, fun a h1 h2 => ?_, t.keepG, t.keepH, t.seen, t.kind⟩
  · obtain ⟨r, q⟩ := s.pre
    exact ⟨r ++ [p], by rw [q, List.append_assoc]⟩
  · rcases List.mem_append.mp h1 with q | q
    · exact s.new a q h2
    · have : a = p := by simpa using q
      subst this; exact n
theorem Rel.box1 (r : Rel K m1 h1 G1) {p : Addr} {o : HO} {u : O} (g : G1 p = none) (np : p ∉ m1) (new : RO K (m1 ++ [p]) (upd G1 p o) p u) : Rel K (m1 ++ [p]) (h1 ++ [u]) (upd G1 p o) := by
  have hm : ∃ q, m1 ++ [p] = m1 ++ q := ⟨[p], rfl⟩
  have hp : ∀ a, a ∈ m1 ++ [p] → a ∉ m1 → a = p := fun a h n => by
    rcases List.mem_append.mp h with q | q
    · exact absurd q n
    · simpa using q
  refine ⟨by rw [List.length_append, List.length_append, r.len]; rfl, ?_, fun k w a h2 h3 => ?_⟩
  · refine List.nodup_append.mpr ⟨r.nd, by simp, fun a ha b hb => ?_⟩
    have : b = p := by simpa using hb
    subst this
    exact fun z => np (z ▸ ha)
  · by_cases hk : k < h1.length
    · rw [List.getElem?_append_left hk] at h2
      rw [List.getElem?_append_left (by rw [r.len]; exact hk)] at h3
      have q := r.obj k w a h2 h3
      cases w with
      | lst xs => obtain ⟨vs, e, l⟩ := q; exact ⟨vs, by rw [upd_ne (ne_of_none e g)]; exact e, l.more g hm hp⟩
      | dct xs => obtain ⟨vs, e, l⟩ := q; exact ⟨vs, by rw [upd_ne (ne_of_none e g)]; exact e, l.more g hm hp⟩
    · have hk2 : k = h1.length := by
        have := (List.getElem?_eq_some_iff.mp h2).1
        rw [List.length_append] at this
        have : k < h1.length + 1 := this
        omega
      subst hk2
      rw [List.getElem?_append_right (Nat.le_refl _), Nat.sub_self] at h2
      rw [← r.len, List.getElem?_append_right (Nat.le_refl _), Nat.sub_self] at h3
      cases h2
      cases h3
      exact new
theorem mut_good {c : Cs} {K : PySem.W.Frag} {cf : Bool → Nat → List D → Hh → R RV} {m : List Addr} {G H : Hp} {h : Hh} {σ : Sg} {E : WE3} {Q : VK} {e : I} (s : Sub G H) (g : Good c K m G H E (ev cf (.mut e) σ h) (fun rv m' G' H' => ∀ v, RR K H m' G' H' rv v → Q v H')) :
    Good c K m G H E (ev cf e σ h) (fun rv m' G' H' => ∀ v, RR K H m' G' H' rv v → Q v H') := by
  have hm' : ∀ (l : List Addr) (p : Addr), ∃ q, l ++ [p] = l ++ q := fun l p => ⟨[p], rfl⟩
  have hp' : ∀ (l : List Addr) (p : Addr), ∀ a, a ∈ l ++ [p] → a ∉ l → a = p := fun l p a h n => by
    rcases List.mem_append.mp h with q | q
    · exact absurd q n
    · simpa using q
  refine Good.mono (Good.bind s g) fun rv m1 G1 H1 s1 ⟨h1, _, r1, _, g1⟩ v q => ?_
  cases rv with
  | d d => exact g1.elim
  | lst xs =>
    obtain ⟨p, vs, rfl, eh, gp, np, hp, l⟩ := q
    refine g1 _ _ _ (s1.box1 eh hp gp) (r1.box1 gp np ⟨vs, upd_same, l.more gp (hm' _ _) (hp' _ _)⟩) _ (.ref ?_)
    rw [← r1.len, List.getElem?_append_right (Nat.le_refl _), Nat.sub_self]; rfl
  | dct xs =>
    obtain ⟨p, vs, rfl, eh, gp, np, hp, l⟩ := q
    refine g1 _ _ _ (s1.box1 eh hp gp) (r1.box1 gp np ⟨vs, upd_same, l.more gp (hm' _ _) (hp' _ _)⟩) _ (.ref ?_)
    rw [← r1.len, List.getElem?_append_right (Nat.le_refl _), Nat.sub_self]; rfl
theorem se_mut {e : I} (he : SE ck c tb n e) : SE ck c tb n (.mut e) := by
  intro X W x sc EN hsc hm m G H h σ t Q r s rs g
  have hm := (ba (show (plainTest x && mE ck X.N sc e x) = true from hm)).2
  exact he X W x sc EN hsc hm m G H h σ t _ r s rs (mut_good s g)

/-! ### what is walked -/
/-- no list, no tuple is longer than the line -/
def Lim (K : PySem.W.Frag) (H : Hp) : Prop := (∀ a vs, SqL K H a vs → vs.length ≤ sizeLine) ∧ ∀ a vs, SqT K H a vs → vs.length ≤ sizeLine
theorem Lim.of {X : Cx} {pins : List (Addr × Obj)} {σ : L2.St} {H : Hp} {s : Shared} (I : Inv X pins σ H s) : Lim X.K H := ⟨fun a vs q => by obtain ⟨_, _, _, h⟩ := I.list q; exact h, fun a vs q => by obtain ⟨_, _, _, h⟩ := I.tuple q; exact h⟩
/-- what is walked, as the library walks it: src at the start (m, G, H), its items xs -/
structure JW (K : PySem.W.Frag) (src : Src) (xs : List D) (J : It) (m : List Addr) (G H : Hp) : Prop where
  len : Lim K H → xs.length ≤ sizeLine
  go : ∀ (m2 : List Addr) (G2 H2 : Hp) (h2 : Hh) (i : Nat) (x y : D), Stp m G H m2 G2 H2 → Rel K m2 h2 G2 → xs[i]? = some x → src.cur h2 i x = some y → J.go i H2 ∧
    ∀ v H3, J.yld i H2 v H3 → ∃ G3, Stp m2 G2 H2 m2 G3 H3 ∧ Rel K m2 h2 G3 ∧ RD K m2 G3 y v
  stop : ∀ (m2 : List Addr) (G2 H2 : Hp) (h2 : Hh), Stp m G H m2 G2 H2 → Rel K m2 h2 G2 → src.fin h2 xs.length = true → J.stop xs.length H2
theorem JW.tup {xs : List D} {a : Addr} {vs : List V} (r : Rel K m h G) (q : SqT K G a vs) (s : Sub G H) (l : RDs K m G xs vs) : JW K (.vals xs) xs (Itt K a) m G H := by
  refine ⟨fun L => by rw [l.length]; exact L.2 a vs (SqT.sub s q), fun m2 G2 H2 h2 i x y st r2 hx hy => ?_, fun m2 G2 H2 h2 st r2 _ => ?_⟩
  · have e : x = y := Option.some.inj hy
    subst e
    obtain ⟨v, e1, q1⟩ := l.get hx
    have q2 : SqT K H2 a vs := SqT.sub st.sub2 (SqT.step r st q)
    refine ⟨⟨vs, v, q2, e1⟩, fun w H3 hw => ?_⟩
    obtain ⟨e3, e4⟩ := hw
    subst e3
    have e5 := Option.some.inj ((e4 vs q2).symm.trans e1)
    subst e5
    exact ⟨G2, .refl st.sub2, r2, q1.step r st⟩
  · exact ⟨vs, SqT.sub st.sub2 (SqT.step r st q), Nat.le_of_eq l.length.symm⟩
theorem JW.lstG {xs : List D} {a : Addr} {vs : List V} (r : Rel K m h G) (s : Sub G H) (q : SqL K H a vs) (qs : ∀ m2 G2 H2, Stp m G H m2 G2 H2 → SqL K H2 a vs) (l : RDs K m G xs vs) : JW K (.vals xs) xs (Itl K a) m G H := by
  refine ⟨fun L => by rw [l.length]; exact L.1 a vs q, fun m2 G2 H2 h2 i x y st r2 hx hy => ?_, fun m2 G2 H2 h2 st r2 _ => ?_⟩
  · have e : x = y := Option.some.inj hy
    subst e
    obtain ⟨v, e1, q1⟩ := l.get hx
    have q2 := qs m2 G2 H2 st
    refine ⟨⟨vs, v, q2, e1⟩, fun w H3 hw => ?_⟩
    obtain ⟨e3, e4⟩ := hw
    subst e3
    have e5 := Option.some.inj ((e4 vs q2).symm.trans e1)
    subst e5
    exact ⟨G2, .refl st.sub2, r2, q1.step r st⟩
  · exact ⟨vs, qs m2 G2 H2 st, Nat.le_of_eq l.length.symm⟩
theorem JW.cell {k : Nat} {xs : List D} {a : Addr} (r : Rel K m h G) (s : Sub G H) (e : h[k]? = some (.lst xs)) (ha : m[k]? = some a) : JW K (.cell k) xs (Itl K a) m G H := by
  have at2 : ∀ {m2 : List Addr} {G2 H2 : Hp} {h2 : Hh} {ys : List D}, Stp m G H m2 G2 H2 → Rel K m2 h2 G2 → h2[k]? = some (.lst ys) → ∃ ws, G2 a = some (.lst ws) ∧ RDs K m2 G2 ys ws := fun st r2 e2 => r2.lst e2 (st.get ha)
  refine ⟨fun L => ?_, fun m2 G2 H2 h2 i x y st r2 hx hy => ?_, fun m2 G2 H2 h2 st r2 hf => ?_⟩
  · obtain ⟨ws, e1, l⟩ := r.lst e ha
    rw [l.length]; exact L.1 a ws (SqL.of (s _ _ e1))
  · have hy : (match h2[k]? with | some (.lst xs) => xs[i]? | _ => none) = some y := hy
    cases z : h2[k]? with
    | none => rw [z] at hy; cases hy
    | some o =>
      rw [z] at hy
      cases o with
      | dct _ => cases hy
      | lst ys =>
        obtain ⟨ws, e1, l⟩ := at2 st r2 z
        obtain ⟨v, e2, q1⟩ := l.get hy
        have q2 : SqL K H2 a ws := SqL.of (st.sub2 _ _ e1)
        refine ⟨⟨ws, v, q2, e2⟩, fun w H3 hw => ?_⟩
        obtain ⟨e3, e4⟩ := hw
        subst e3
        have e5 := Option.some.inj ((e4 ws q2).symm.trans e2)
        subst e5
        exact ⟨G2, .refl st.sub2, r2, q1⟩
  · have hf : (match h2[k]? with | some (.lst ys) => decide (ys.length ≤ xs.length) | _ => false) = true := hf
    cases z : h2[k]? with
    | none => rw [z] at hf; cases hf
    | some o =>
      rw [z] at hf
      cases o with
      | dct _ => cases hf
      | lst ys =>
        obtain ⟨ws, e1, l⟩ := at2 st r2 z
        exact ⟨ws, SqL.of (st.sub2 _ _ e1), by rw [← l.length]; exact of_decide_eq_true hf⟩
theorem JW.ints {f : Nat → Int} {k : Nat} {J : It} (hk : k ≤ sizeLine) (h1 : ∀ i H, J.go i H = (i < k)) (h2 : ∀ i H v H', J.yld i H v H' = (H' = H ∧ v = .int (f i))) (h3 : ∀ i H, J.stop i H = (k ≤ i)) :
    JW K (.vals ((List.range k).map fun i => .int (f i))) ((List.range k).map fun i => .int (f i)) J m G H := by
  refine ⟨fun _ => by rw [List.length_map, List.length_range]; exact hk, fun m2 G2 H2 hh i x y st r2 hx hy => ?_, fun m2 G2 H2 h2 st r2 _ => by rw [h3, List.length_map, List.length_range]; exact Nat.le_refl _⟩
  have e : x = y := Option.some.inj hy
  subst e
  rw [List.getElem?_map] at hx
  cases z : (List.range k)[i]? with
  | none => rw [z] at hx; cases hx
  | some j =>
    rw [z] at hx
    obtain ⟨hl, hj⟩ := List.getElem?_eq_some_iff.mp z
    rw [List.length_range] at hl
    rw [List.getElem_range] at hj
    subst hj
    cases hx
    refine ⟨by rw [h1]; exact hl, fun v H3 hv => ?_⟩
    rw [h2] at hv
    obtain ⟨e1, e2⟩ := hv
    subst e1 e2
    exact ⟨G2, .refl st.sub2, r2, .int _⟩
theorem JW.text {z : Str} (hz : z.length ≤ sizeLine) : JW K (.vals (z.cps.toList.map chr1)) (z.cps.toList.map chr1) (Its z) m G H := by
  have hl : (z.cps.toList.map chr1).length = z.cps.size := by rw [List.length_map, Array.length_toList]
  refine ⟨fun _ => by rw [hl]; exact hz, fun m2 G2 H2 hh i x y st r2 hx hy => ?_, fun m2 G2 H2 h2 st r2 _ => by show z.cps.size ≤ _; rw [hl]; exact Nat.le_refl _⟩
  have e : x = y := Option.some.inj hy
  subst e
  have hi : i < z.cps.size := by rw [← hl]; exact (List.getElem?_eq_some_iff.mp hx).1
  refine ⟨hi, fun v H3 hv => ?_⟩
  obtain ⟨e1, cc, e2, e3⟩ := hv
  subst e1 e3
  rw [List.getElem?_map] at hx
  have e4 : z.cps.toList[i]? = some cc := by rw [Array.getElem?_toList]; exact e2
  rw [e4] at hx
  cases hx
  exact ⟨G2, .refl st.sub2, r2, .str _⟩
/-- pairs of what stands at a turn -/
theorem JW.pairs {xs : List (D × D)} {J : It} (f g : Nat → Option V) (m0 : Unit) (hlen : Lim K H → xs.length ≤ sizeLine)
    (hgo : ∀ (m2 : List Addr) (G2 H2 : Hp) (h2 : Hh) (i : Nat) (p : D × D), Stp m G H m2 G2 H2 → Rel K m2 h2 G2 → xs[i]? = some p → J.go i H2 ∧ ∀ v H3, J.yld i H2 v H3 → ∃ T u w, v = .ref T ∧ H2 T = none ∧ H3 = upd H2 T (.tup [u, w]) ∧ RD K m2 G2 p.1 u ∧ RD K m2 G2 p.2 w)
    (hst : ∀ (m2 : List Addr) (G2 H2 : Hp) (h2 : Hh), Stp m G H m2 G2 H2 → Rel K m2 h2 G2 → J.stop xs.length H2) :
    JW K (.vals (xs.map fun p => .tup [p.1, p.2])) (xs.map fun p => .tup [p.1, p.2]) J m G H := by
  refine ⟨fun L => by rw [List.length_map]; exact hlen L, fun m2 G2 H2 hh i x y st r2 hx hy => ?_, fun m2 G2 H2 h2 st r2 _ => by rw [List.length_map]; exact hst m2 G2 H2 h2 st r2⟩
  have e : x = y := Option.some.inj hy
  subst e
  rw [List.getElem?_map] at hx
  cases z : xs[i]? with
  | none => rw [z] at hx; cases hx
  | some p =>
    rw [z] at hx
    cases hx
    obtain ⟨k1, k2⟩ := hgo m2 G2 H2 hh i p st r2 z
    refine ⟨k1, fun v H3 hv => ?_⟩
    obtain ⟨T, u, w, e1, e2, e3, q1, q2⟩ := k2 v H3 hv
    subst e1 e3
    have s2 := Stp.new1 st.sub2 r2 e2 (.tup [u, w])
    exact ⟨_, s2, r2.new1 st.sub2 e2 _, .tup (SqT.of upd_same) (.cons (q1.step r2 s2) (.cons (q2.step r2 s2) .nil))⟩
end
end Cw
end

section
set_option Elab.async false
set_option linter.all false
set_option maxRecDepth 100000
set_option maxHeartbeats 4000000
/-! Cw16: what is walked, by the library's rules. -/
namespace Cw
open PySem PySem.Spec PyProof.Rows L2

/-- behind what is walked lists and tuples are as long as can be -/
theorem piL {X : Cx} {tg e : Expr} {t : TI} (h : PI X tg e t) : PI X tg e (fun σ H R => t σ H fun J H1 => Lim X.K H1 → R J H1) := by
  refine ⟨fun pins s σ H R I q => ?_⟩
  refine wpAny_mono (h.run pins s σ H _ I q) (fun v s1 q1 => wpAny_mono q1 (fun itv s2 q2 => ?_) fun _ _ z => z) fun _ _ z => z
  obtain ⟨it, fp, tn, J, H', e1, I2, T, st, f2, q3⟩ := q2
  exact ⟨it, fp, tn, J, H', e1, I2, T, st, f2, q3 (Lim.of I2)⟩
theorem fold_pure {e : Expr} {env : Env} {x : Value} (h : isWith e = true) : foldedSetIterable e env x = pure x := by
  cases e <;> first | rfl | cases h

section
variable {K : PySem.W.Frag} {m m' m2 : List Addr} {G H G' H' G2 H2 H0 : Hp} {h h' : Hh}
theorem RR.keepL (s : Sub G H) (r : Rel K m h G) {x : RV} {v : V} {xs : List D} (q : RR K H0 m G H x v) (n : ∀ k, x ≠ .d (.ref k)) (e : x.lisc h = some xs) :
    ∃ a vs, v = .ref a ∧ SqL K H a vs ∧ (∀ m2 G2 H2, Stp m G H m2 G2 H2 → SqL K H2 a vs) ∧ RDs K m G xs vs := by
  cases x with
  | d d =>
    cases d with
    | sc ys => cases e; obtain ⟨a, vs, h1, h2, h4⟩ := RD.sc_of q; exact ⟨a, vs, h1, SqL.sub s h2.sql, fun m2 G2 H2 st => SqL.sub st.sub2 (FL.step r st h2).sql, h4⟩
    | fl ys => cases e; obtain ⟨a, vs, h1, h2, h3, h4⟩ := RD.fl_of q; exact ⟨a, vs, h1, SqL.of (s _ _ h2), fun m2 G2 H2 st => SqL.of (st.sub2 _ _ (st.keepG _ _ h2 h3)), h4⟩
    | ref k => exact absurd rfl (n k)
    | _ => cases e
  | lst ys => cases e; obtain ⟨a, vs, h1, h2, h3, h4, _, h5⟩ := q; exact ⟨a, vs, h1, SqL.of h2, fun m2 G2 H2 st => SqL.of (st.keepH _ _ h2 h4), h5⟩
  | dct _ => cases e
theorem zipD_eq : ∀ xs ys : List D, zipD xs ys = (List.zip xs ys).map fun p => .tup [p.1, p.2]
  | [], ys => by cases ys <;> rfl
  | x :: xs, [] => rfl
  | x :: xs, y :: ys => congrArg _ (zipD_eq xs ys)
theorem enumD_eq (xs : List D) : enumD xs = (xs.mapIdx fun i x => (D.int i, x)).map fun p => .tup [p.1, p.2] := by
  unfold enumD
  refine List.ext_getElem? fun i => ?_
  rw [List.getElem?_map, List.getElem?_mapIdx, List.getElem?_mapIdx]
  cases xs[i]? <;> rfl
theorem JW.enum {xs : List D} {a : Addr} {vs : List V} (r : Rel K m h G) (q : SqL K H a vs) (qs : ∀ m2 G2 H2, Stp m G H m2 G2 H2 → SqL K H2 a vs) (l : RDs K m G xs vs) : JW K (.vals (enumD xs)) (enumD xs) (Ite K a) m G H := by
  rw [enumD_eq]
  refine JW.pairs (fun _ => none) (fun _ => none) () (fun L => by rw [List.length_mapIdx, l.length]; exact L.1 a vs q) (fun m2 G2 H2 h2 i p st r2 hp => ?_) (fun m2 G2 H2 h2 st r2 => ⟨vs, qs _ _ _ st, by rw [List.length_mapIdx]; exact Nat.le_of_eq l.length.symm⟩)
  rw [List.getElem?_mapIdx] at hp
  obtain ⟨x, hx, ep⟩ := map_some hp
  subst ep
  obtain ⟨v, e1, q1⟩ := l.get hx
  refine ⟨⟨vs, v, qs _ _ _ st, e1⟩, fun w H3 hw => ?_⟩
  obtain ⟨T, u, e2, e3, e4, e5⟩ := hw
  have e6 := Option.some.inj ((e5 vs (qs _ _ _ st)).symm.trans e1)
  subst e6
  exact ⟨T, _, _, e2, e3, e4, .int _, q1.step r st⟩
theorem zip_get {xs ys : List D} {i : Nat} {p : D × D} (e : (List.zip xs ys)[i]? = some p) : xs[i]? = some p.1 ∧ ys[i]? = some p.2 := by
  rw [List.getElem?_zip_eq_some] at e; exact e
theorem zip_end {xs ys : List D} {vs ws : List V} (l : xs.length = vs.length) (l2 : ys.length = ws.length) : vs.length ≤ (List.zip xs ys).length ∨ ws.length ≤ (List.zip xs ys).length := by
  rw [List.length_zip]; omega
theorem JW.zipL {xs ys : List D} {a b : Addr} {vs ws : List V} (r : Rel K m h G) (q : SqL K H a vs) (qs : ∀ m2 G2 H2, Stp m G H m2 G2 H2 → SqL K H2 a vs) (l : RDs K m G xs vs) (qs2 : ∀ m2 G2 H2, Stp m G H m2 G2 H2 → SqL K H2 b ws) (l2 : RDs K m G ys ws) : JW K (.vals (zipD xs ys)) (zipD xs ys) (Itz K a b) m G H := by
  rw [zipD_eq]
  refine JW.pairs (fun _ => none) (fun _ => none) () (fun L => by
    have := L.1 a vs q
    rw [List.length_zip, l.length]; omega) (fun m2 G2 H2 h2 i p st r2 hp => ?_) (fun m2 G2 H2 h2 st r2 => ⟨vs, ws, qs _ _ _ st, qs2 _ _ _ st, zip_end l.length l2.length⟩)
  obtain ⟨p1, p2⟩ := zip_get hp
  obtain ⟨v, e1, q1⟩ := l.get p1
  obtain ⟨w, e2, q2⟩ := l2.get p2
  refine ⟨⟨vs, ws, v, w, qs _ _ _ st, qs2 _ _ _ st, e1, e2⟩, fun z H3 hw => ?_⟩
  obtain ⟨T, u, u2, e3, e4, e5, e6, e7⟩ := hw
  have e8 := Option.some.inj ((e6 vs (qs _ _ _ st)).symm.trans e1)
  have e9 := Option.some.inj ((e7 ws (qs2 _ _ _ st)).symm.trans e2)
  subst e8 e9
  exact ⟨T, _, _, e3, e4, e5, q1.step r st, q2.step r st⟩
theorem JW.zipT {xs ys : List D} {a b : Addr} {vs ws : List V} (s : Sub G H) (r : Rel K m h G) (q : SqT K G a vs) (l : RDs K m G xs vs) (q2 : SqT K G b ws) (l2 : RDs K m G ys ws) : JW K (.vals (zipD xs ys)) (zipD xs ys) (RZ.ItzT K a b) m G H := by
  have qs : ∀ m2 G2 H2, Stp m G H m2 G2 H2 → SqT K H2 a vs := fun _ _ _ st => SqT.sub st.sub2 (SqT.step r st q)
  have qs2 : ∀ m2 G2 H2, Stp m G H m2 G2 H2 → SqT K H2 b ws := fun _ _ _ st => SqT.sub st.sub2 (SqT.step r st q2)
  rw [zipD_eq]
  refine JW.pairs (fun _ => none) (fun _ => none) () (fun L => by
    have := L.2 a vs (SqT.sub s q)
    rw [List.length_zip, l.length]; omega) (fun m2 G2 H2 h2 i p st r2 hp => ?_) (fun m2 G2 H2 h2 st r2 => ⟨vs, ws, qs _ _ _ st, qs2 _ _ _ st, zip_end l.length l2.length⟩)
  obtain ⟨p1, p2⟩ := zip_get hp
  obtain ⟨v, e1, q1⟩ := l.get p1
  obtain ⟨w, e2, q2⟩ := l2.get p2
  refine ⟨⟨vs, ws, v, w, qs _ _ _ st, qs2 _ _ _ st, e1, e2⟩, fun z H3 hw => ?_⟩
  obtain ⟨T, u, u2, e3, e4, e5, e6, e7⟩ := hw
  have e8 := Option.some.inj ((e6 vs (qs _ _ _ st)).symm.trans e1)
  have e9 := Option.some.inj ((e7 ws (qs2 _ _ _ st)).symm.trans e2)
  subst e8 e9
  exact ⟨T, _, _, e3, e4, e5, q1.step r st, q2.step r st⟩
end

section
variable (ck : Ck) (c : Cs) (tb : Tb) (n : Nat)
def isTupX : Expr → Bool
  | .Tuple .. => true
  | _ => false
def SI (i : I) : Prop := ∀ (X : Cx) (W : WX) (tg z : Expr) (sc : Scope), Env1 ck c tb n X W → X.env.scope = sc → mI ck X.N sc i z = true → (isPairIt i = true → isTupX tg = true) → ∀ (m : List Addr) (G H : Hp) (h : Hh) (σ : Sg) (t : L2.St) (Q : It → Hp → Prop), Rel X.K m h G → Sub G H → RS X.K m G σ t →
  Good c X.K m G H (fun C d H' => W C d t H') (evi (runB tb n) i σ h) (fun src m' G' H' => ∀ J, (∀ h', evi (runB tb n) i σ h = .ok src h' → Rel X.K m' h' G' → JW X.K src (src.items h') J m' G' H') → Q J H') → bI X tg z t H Q
end

section
variable {ck : Ck} {c : Cs} {tb : Tb} {n : Nat}
theorem mI_with : ∀ {N : List Str} {sc : Scope} {i : I} {z : Expr}, mI ck N sc i z = true → isWith z = true := by
  intro N sc i z h
  cases i with
  | it e => exact mE_plain e h
  | _ => cases z <;> first | rfl | exact Bool.noConfusion (show false = true from h)
theorem si_it {e : I} (he : SE ck c tb n e) : SI ck c tb n (.it e) := by
  intro X W tg z sc EN hsc hm _ m G H h σ t Q r s rs g
  have hm : mE ck X.N sc e z = true := hm
  have g0 : Good c X.K m G H (fun C d H' => W C d t H') ((ev (runB tb n) e σ h).bind fun x h => R.ofO (srcOf x h) h) _ := g
  have hev : ∀ x h1 src, ev (runB tb n) e σ h = .ok x h1 → srcOf x h1 = some src → evi (runB tb n) (.it e) σ h = .ok src h1 := fun x h1 src e1 e2 => by
    show (ev (runB tb n) e σ h).bind (fun x h => R.ofO (srcOf x h) h) = _
    rw [e1]
    show R.ofO (srcOf x h1) h1 = _
    rw [e2]; rfl
  -- which kind
  have lists : (∀ x h1, ev (runB tb n) e σ h = .ok x h1 → (∀ z, x ≠ .d (.str z)) ∧ ∀ xs, x ≠ .d (.tup xs)) → bI X tg z t H Q := fun kind => by
    refine ⟨_, pi_list peB, ?_⟩
    refine he X W z sc EN hsc hm m G H h σ t _ r s rs (Good.mono (Good.bind s g0) fun rv m1 G1 H1 s1 ⟨h1, e1, r1, s01, g1⟩ v q => ?_)
    obtain ⟨k1, k2⟩ := kind rv h1 e1
    obtain ⟨src, e2, g3⟩ := Good.ofO g1
    have g4 := g3 m1 G1 H1 s01 r1
    have e3 := hev rv h1 src e1 e2
    by_cases isRef : ∃ k, rv = .d (.ref k)
    · obtain ⟨k, rfl⟩ := isRef
      have e4 : (match h1[k]? with | some (.lst _) => some (Src.cell k) | _ => none) = some src := e2
      obtain ⟨a, rfl, ha⟩ := RD.ref_of q
      cases z1 : h1[k]? with
      | none => rw [z1] at e4; cases e4
      | some o =>
        rw [z1] at e4
        cases o with
        | dct _ => cases e4
        | lst xs =>
          cases e4
          obtain ⟨vs, e5, l⟩ := r1.lst z1 ha
          refine ⟨a, rfl, ⟨vs, SqL.of (s1.sub2 _ _ e5)⟩, g4 _ fun h' e6 r6 => ?_⟩
          have e7 := e6.symm.trans e3
          cases e7
          have ei : Src.items h1 (.cell k) = xs := by show (match h1[k]? with | some (.lst xs) => xs | _ => []) = xs; rw [z1]
          rw [ei]
          exact JW.cell r6 s1.sub2 z1 ha
    · have hn : ∀ k, rv ≠ .d (.ref k) := fun k z => isRef ⟨k, z⟩
      have e4 : ∃ xs, rv.lisc h1 = some xs ∧ src = .vals xs := by
        cases rv with
        | d d =>
          cases d with
          | ref k => exact absurd rfl (hn k)
          | str z => exact absurd rfl (k1 z)
          | tup xs => exact absurd rfl (k2 xs)
          | fl xs => cases e2; exact ⟨xs, rfl, rfl⟩
          | sc xs => cases e2; exact ⟨xs, rfl, rfl⟩
          | _ => cases e2
        | lst xs => cases e2; exact ⟨xs, rfl, rfl⟩
        | dct _ => cases e2
      obtain ⟨xs, e5, rfl⟩ := e4
      obtain ⟨a, vs, rfl, q1, qs, l⟩ := RR.keepL s1.sub2 r1 q hn e5
      refine ⟨a, rfl, ⟨vs, q1⟩, g4 _ fun h' e6 r6 => ?_⟩
      have e7 := e6.symm.trans e3
      cases e7
      exact JW.lstG r6 s1.sub2 q1 qs l
  cases ek : ev (runB tb n) e σ h with
  | ok x hx =>
    by_cases isStr : ∃ z, x = .d (.str z)
    · obtain ⟨y, rfl⟩ := isStr
      refine ⟨_, pi_str peB, ?_⟩
      refine he X W z sc EN hsc hm m G H h σ t _ r s rs (Good.mono (Good.bind s g0) fun rv m1 G1 H1 s1 ⟨h1, e1, r1, s01, g1⟩ v q => ?_)
      have e0 := e1.symm.trans ek
      cases e0
      obtain ⟨src, e2, g3⟩ := Good.ofO g1
      have e2' : (if y.length ≤ line then some (Src.vals (y.cps.toList.map chr1)) else none) = some src := e2
      obtain ⟨hl, rfl⟩ := if_some e2'
      have q' := RD.str_of q
      subst q'
      refine ⟨y, rfl, g3 m1 G1 H1 s01 r1 _ fun h' e6 r6 => ?_⟩
      exact JW.text (by rw [← line_eq]; exact hl)
    · by_cases isTup : ∃ z, x = .d (.tup z)
      · obtain ⟨y, rfl⟩ := isTup
        refine ⟨_, pi_tup peB, ?_⟩
        refine he X W z sc EN hsc hm m G H h σ t _ r s rs (Good.mono (Good.bind s g0) fun rv m1 G1 H1 s1 ⟨h1, e1, r1, s01, g1⟩ v q => ?_)
        have e0 := e1.symm.trans ek
        cases e0
        obtain ⟨src, e2, g3⟩ := Good.ofO g1
        cases e2
        obtain ⟨a, vs, rfl, q1, l⟩ := RD.tup_of q
        exact ⟨a, rfl, ⟨vs, SqT.sub s1.sub2 q1⟩, g3 m1 G1 H1 s01 r1 _ fun h' e6 r6 => JW.tup r6 q1 s1.sub2 l⟩
      · refine lists fun x' h1' e1 => ?_
        have e0 := e1.symm.trans ek
        cases e0
        exact ⟨fun z q => isStr ⟨z, q⟩, fun z q => isTup ⟨z, q⟩⟩
  | exc a b => exact lists fun x' h1' e1 => by have e0 := e1.symm.trans ek; cases e0
  | stuck => exact lists fun x' h1' e1 => by have e0 := e1.symm.trans ek; cases e0
theorem ints1 {K : PySem.W.Frag} {m : List Addr} {G : Hp} {i : Int} {vs : List V} (l : RDs K m G [.int i] vs) : vs = [.int i] := by
  cases l with | cons a l => cases l; rw [RD.int_of a]
theorem ints2 {K : PySem.W.Frag} {m : List Addr} {G : Hp} {i j : Int} {vs : List V} (l : RDs K m G [.int i, .int j] vs) : vs = [.int i, .int j] := by
  cases l with | cons a l => cases l with | cons b l => cases l; rw [RD.int_of a, RD.int_of b]
theorem ints3 {K : PySem.W.Frag} {m : List Addr} {G : Hp} {i j k : Int} {vs : List V} (l : RDs K m G [.int i, .int j, .int k] vs) : vs = [.int i, .int j, .int k] := by
  cases l with | cons a l => cases l with | cons b l => cases l with | cons d l => cases l; rw [RD.int_of a, RD.int_of b, RD.int_of d]
theorem rng1_inv {ds : List D} {xs : List D} (hl : ds.length = 1) (e : rngOp ds = some xs) : ∃ j : Int, ds = [.int j] ∧ (-(2 ^ 40) ≤ j ∧ j ≤ 16777216) ∧ xs = (List.range j.toNat).map fun (i : Nat) => D.int ((0 : Int) + i) := by
  match ds, hl with
  | [x], _ =>
    cases x with
    | int j => obtain ⟨h1, h2⟩ := if_some e; exact ⟨j, rfl, h1, h2.symm⟩
    | _ => cases e
theorem rng2_inv {ds : List D} {xs : List D} (hl : ds.length = 2) (e : rngOp ds = some xs) : ∃ i j : Int, ds = [.int i, .int j] ∧ (-(2 ^ 40) ≤ i ∧ i < 2 ^ 40 ∧ -(2 ^ 40) ≤ j ∧ j < 2 ^ 40 ∧ j - i ≤ 16777216) ∧ xs = (List.range (j - i).toNat).map fun (k : Nat) => D.int (i + k) := by
  match ds, hl with
  | [x, y], _ =>
    cases x with
    | int i =>
      cases y with
      | int j => obtain ⟨h1, h2⟩ := if_some e; exact ⟨i, j, rfl, h1, h2.symm⟩
      | _ => cases e
    | _ => cases y <;> cases e
theorem rng3_inv {ds : List D} {xs : List D} (hl : ds.length = 3) (e : rngOp ds = some xs) : ∃ i j s : Int, ds = [.int i, .int j, .int s] ∧ (s ≠ 0 ∧ s.natAbs < 1073741824 ∧ Builtin.Range.small i j s = true ∧ Builtin.Range.rangeSize i j s = ((Builtin.Range.rangeSize i j s).toNat : Int) ∧ (Builtin.Range.rangeSize i j s).toNat ≤ 16777216) ∧
    xs = (List.range (Builtin.Range.rangeSize i j s).toNat).map fun (k : Nat) => D.int (i + k * s) := by
  match ds, hl with
  | [x, y, w], _ =>
    cases x with
    | int i =>
      cases y with
      | int j =>
        cases w with
        | int s => obtain ⟨h1, h2⟩ := if_some e; exact ⟨i, j, s, rfl, h1, h2.symm⟩
        | _ => cases e
      | _ => cases w <;> cases e
    | _ => cases y <;> cases w <;> cases e
theorem si_rngS {es : List I} (he : SEs ck c tb n es) : ∀ (X : Cx) (W : WX) (tg z : Expr) (sc : Scope), Env1 ck c tb n X W → X.env.scope = sc → mI ck X.N sc (.rng es) z = true → ∀ (m : List Addr) (G H : Hp) (h : Hh) (σ : Sg) (t : L2.St) (Q : It → Hp → Prop), Rel X.K m h G → Sub G H → RS X.K m G σ t →
    Good c X.K m G H (fun C d H' => W C d t H') ((evs (runB tb n) es σ h).bind fun ds h => R.ofO ((rngOp ds).map Src.vals) h) (fun src m' G' H' => ∀ J ys, src = .vals ys → (∀ m G H, JW X.K (.vals ys) ys J m G H) → Q J H') → bI X tg z t H Q := by
  intro X W tg z sc EN hsc hm m G H h σ t Q r s rs g
  cases z with
  | Call f xs kws pos =>
    cases f with
    | Name y p =>
      cases kws with
      | cons _ _ => exact Bool.noConfusion (show false = true from hm)
      | nil =>
        obtain ⟨hm, h5⟩ := ba (show ((((decide (y = ("range" : Str)) && bltn ck sc y) && !xs.isEmpty) && decide (xs.length ≤ 3)) && mEs ck X.N sc es xs) = true from hm)
        obtain ⟨hm, h4⟩ := ba hm
        obtain ⟨hm, h3⟩ := ba hm
        obtain ⟨h1, h2⟩ := ba hm
        have hy : y = ("range" : Str) := of_decide_eq_true h1
        have h4 : xs.length ≤ 3 := of_decide_eq_true h4
        subst hy
        obtain ⟨hg, hf⟩ := isFree_of EN hsc h2
        have g0 : Good c X.K m G H (fun C d H' => W C d t H') ((evs (runB tb n) es σ h).bind fun ds h => R.ofO ((rngOp ds).map Src.vals) h) _ := g
        have len : es.length = xs.length := mEs_len h5
        have fin : ∀ P : List V → Hp → Prop, (∀ ds ys vs (m1 : List Addr) (G1 H1 : Hp), rngOp ds = some ys → ds.length = xs.length → RDs X.K m1 G1 ds vs → (∀ J, (∀ m G H, JW X.K (.vals ys) ys J m G H) → Q J H1) → P vs H1) → bA X xs t H P := fun P k => by
          refine he X W xs sc EN hsc h5 m G H h σ t _ r s rs (Good.mono (Good.bind s g0) fun ds m1 G1 H1 s1 ⟨h1, e1, r1, s01, g1⟩ vs l => ?_)
          obtain ⟨src, e2, g3⟩ := Good.ofO g1
          obtain ⟨ys, e3, rfl⟩ := map_some e2
          exact k ds ys vs m1 G1 H1 e3 (by rw [evs_len e1, len]) l fun J hJ => g3 m1 G1 H1 s01 r1 J ys rfl hJ
        match xs, h3, h4, h5, fin with
        | [a], _, _, h5, fin =>
          refine ⟨_, pi_range1 hg hf (paB (X := X) (e := [a])) (by cases es with | nil => cases h5 | cons e es => exact star_of (mE_plain e (ba h5).1)), fin _ fun ds ys vs m1 G1 H1 e3 hl l k => ?_⟩
          obtain ⟨j, rfl, hb, rfl⟩ := rng1_inv hl e3
          refine ⟨j, ints1 l, by omega, by omega, k _ fun m G H => ?_⟩
          refine JW.ints (by rw [sizeLine_eq]; omega) (fun i H => rfl) (fun i H v H' => rfl) (fun i H => rfl)
        | [a, b], _, _, h5, fin =>
          match es, h5 with
          | [ea, eb], h5 =>
            obtain ⟨ha, hb⟩ := ba (show (mE ck X.N sc ea a && (mE ck X.N sc eb b && true)) = true from h5)
            obtain ⟨hb, _⟩ := ba hb
            refine ⟨_, pi_range2 hg hf (paB (X := X) (e := [a, b])) (by rw [star_of (mE_plain ea ha), star_of (mE_plain eb hb)]; rfl) (by rw [star_of (mE_plain eb hb)]; rfl), fin _ fun ds ys vs m1 G1 H1 e3 hl l k => ?_⟩
            obtain ⟨i, j, rfl, hb, rfl⟩ := rng2_inv hl e3
            refine ⟨i, j, ints2 l, by omega, k _ fun m G H => ?_⟩
            refine JW.ints (by rw [sizeLine_eq]; omega) (fun i H => rfl) (fun i H v H' => rfl) (fun i H => rfl)
        | [a, b, d], _, _, h5, fin =>
          match es, h5 with
          | [ea, eb, ed], h5 =>
            obtain ⟨ha, hb⟩ := ba (show (mE ck X.N sc ea a && mEs ck X.N sc [eb, ed] [b, d]) = true from h5)
            refine ⟨_, pi_range3 hg hf (paB (X := X) (e := [a, b, d])) (star_of (mE_plain ea ha)) (by rw [backTo_any]; exact plain_star hb), fin _ fun ds ys vs m1 G1 H1 e3 hl l k => ?_⟩
            obtain ⟨i, j, q, rfl, hb, rfl⟩ := rng3_inv hl e3
            refine ⟨i, j, q, _, ints3 l, ⟨hb.1, hb.2.1, hb.2.2.1, hb.2.2.2.1⟩, k _ fun m G H => ?_⟩
            refine JW.ints (by rw [sizeLine_eq]; exact hb.2.2.2.2) (fun i H => rfl) (fun i H v H' => rfl) (fun i H => rfl)
    | _ => exact Bool.noConfusion (show false = true from hm)
  | _ => exact Bool.noConfusion (show false = true from hm)
theorem si_rng {es : List I} (he : SEs ck c tb n es) : SI ck c tb n (.rng es) := fun X W tg z sc EN hsc hm _ m G H h σ t Q r s rs g =>
  si_rngS he X W tg z sc EN hsc hm m G H h σ t Q r s rs (Good.mono g fun src m1 G1 H1 _ k J ys e hJ => by
    subst e
    exact k J fun h' _ _ => hJ _ _ _)
/-- what enumerate makes of a value -/
def enumSrc (x : RV) (h : Hh) : R Src := match x with
  | .d (.ref _) => .stuck
  | x => R.ofO ((x.lisc h).map fun xs => .vals (enumD xs)) h
theorem enumSrc_of {x : RV} {h : Hh} (n : ∀ k, x ≠ .d (.ref k)) : enumSrc x h = R.ofO ((x.lisc h).map fun xs => Src.vals (enumD xs)) h := by
  unfold enumSrc
  split
  · exact absurd rfl (n _)
  · rfl
theorem si_enum {e : I} (he : SE ck c tb n e) : SI ck c tb n (.enum e) := by
  intro X W tg z sc EN hsc hm ht m G H h σ t Q r s rs g
  have ⟨tes, tk, tp, etg⟩ : ∃ tes tk tp, tg = .Tuple tes tk tp := by
    have q := ht rfl
    cases tg <;> first | exact ⟨_, _, _, rfl⟩ | exact Bool.noConfusion (show false = true from q)
  subst etg
  cases z with
  | Call f xs kws pos =>
    cases f with
    | Name y p =>
      cases kws with
      | cons _ _ => match xs, hm with | [], hm => exact Bool.noConfusion (show false = true from hm) | [_], hm => exact Bool.noConfusion (show false = true from hm) | _ :: _ :: _, hm => exact Bool.noConfusion (show false = true from hm)
      | nil =>
        match xs, hm with
        | [], hm => exact Bool.noConfusion (show false = true from hm)
        | _ :: _ :: _, hm => exact Bool.noConfusion (show false = true from hm)
        | [x], hm =>
          obtain ⟨hm, h3⟩ := ba (show ((decide (y = ("enumerate" : Str)) && bltn ck sc y) && mE ck X.N sc e x) = true from hm)
          obtain ⟨h1, h2⟩ := ba hm
          have hy : y = ("enumerate" : Str) := of_decide_eq_true h1
          subst hy
          obtain ⟨hg, hf⟩ := isFree_of EN hsc h2
          have g0 : Good c X.K m G H (fun C d H' => W C d t H') ((ev (runB tb n) e σ h).bind fun x h => enumSrc x h) _ := g
          refine ⟨_, pi_enum hg hf (pa_cons peB pa_nil (star_of (mE_plain e h3))) (star_of (mE_plain e h3)), ?_⟩
          refine he X W x sc EN hsc h3 m G H h σ t _ r s rs (Good.mono (Good.bind s g0) fun rv m1 G1 H1 s1 ⟨h1, e1, r1, s01, g1⟩ v q => ?_)
          have hn : ∀ k, rv ≠ .d (.ref k) := fun k z => by subst z; exact g1.elim
          rw [enumSrc_of hn] at g1
          obtain ⟨src, e2, g3⟩ := Good.ofO g1
          obtain ⟨ys, e3, rfl⟩ := map_some e2
          obtain ⟨a, vs, rfl, q1, qs, l⟩ := RR.keepL s1.sub2 r1 q hn e3
          exact ⟨a, vs, rfl, q1, g3 m1 G1 H1 s01 r1 _ fun h' e6 r6 => JW.enum r6 q1 qs l⟩
    | _ => match xs, kws, hm with | [], _, hm => exact Bool.noConfusion (show false = true from hm) | [_], [], hm => exact Bool.noConfusion (show false = true from hm) | [_], _ :: _, hm => exact Bool.noConfusion (show false = true from hm) | _ :: _ :: _, _, hm => exact Bool.noConfusion (show false = true from hm)
  | _ => exact Bool.noConfusion (show false = true from hm)
/-- what zip makes of two values -/
def zipSrc (x y : RV) (h : Hh) : R Src := match x, y with
  | .d (.ref _), _ => .stuck
  | _, .d (.ref _) => .stuck
  | .d (.tup xs), .d (.tup ys) => .ok (.vals (zipD xs ys)) h
  | x, y => R.ofO ((x.lisc h).bind fun xs => (y.lisc h).map fun ys => .vals (zipD xs ys)) h
theorem zipSrc_ok {x y : RV} {h h' : Hh} {src : Src} (e : zipSrc x y h = .ok src h') : h' = h ∧ ((∃ xs ys, x = .d (.tup xs) ∧ y = .d (.tup ys) ∧ src = .vals (zipD xs ys)) ∨
    ∃ xs ys, (∀ k, x ≠ .d (.ref k)) ∧ (∀ k, y ≠ .d (.ref k)) ∧ x.lisc h = some xs ∧ y.lisc h = some ys ∧ src = .vals (zipD xs ys)) := by
  unfold zipSrc at e
  split at e
  · cases e
  · cases e
  · cases e; exact ⟨rfl, .inl ⟨_, _, rfl, rfl, rfl⟩⟩
  · next n1 n2 _ =>
    cases e1 : x.lisc h with
    | none => rw [e1] at e; cases e
    | some xs =>
      cases e2 : y.lisc h with
      | none => rw [e1, e2] at e; cases e
      | some ys =>
        rw [e1, e2] at e
        cases e
        exact ⟨rfl, .inr ⟨xs, ys, n1, n2, rfl, rfl, rfl⟩⟩
theorem si_zip {e f : I} (he : SE ck c tb n e) (hf : SE ck c tb n f) : SI ck c tb n (.zip e f) := by
  intro X W tg z sc EN hsc hm ht m G H h σ t Q r s rs g
  have ⟨tes, tk, tp, etg⟩ : ∃ tes tk tp, tg = .Tuple tes tk tp := by
    have q := ht rfl
    cases tg <;> first | exact ⟨_, _, _, rfl⟩ | exact Bool.noConfusion (show false = true from q)
  subst etg
  have g0 : Good c X.K m G H (fun C d H' => W C d t H') ((ev (runB tb n) e σ h).bind fun x h => (ev (runB tb n) f σ h).bind fun y h => zipSrc x y h) _ := g
  have ⟨y, p, x, w, pos, ez⟩ : ∃ y p x w pos, z = .Call (.Name y p) [x, w] [] pos := by
    unfold mI at hm
    split at hm <;> first | exact ⟨_, _, _, _, _, rfl⟩ | cases hm | contradiction
  subst ez
  obtain ⟨hm, h4⟩ := ba (show (((decide (y = ("zip" : Str)) && bltn ck sc y) && mE ck X.N sc e x) && mE ck X.N sc f w) = true from hm)
  obtain ⟨hm, h3⟩ := ba hm
  obtain ⟨h1, h2⟩ := ba hm
  have hy : y = ("zip" : Str) := of_decide_eq_true h1
  subst hy
  obtain ⟨hg, hfr⟩ := isFree_of EN hsc h2
  refine ⟨_, RZ.pi_zipA hg hfr (pa_cons peB (pa_cons peB pa_nil (star_of (mE_plain f h4))) (star_of (mE_plain e h3))) (star_of (mE_plain e h3)) (by rw [backTo_any, star_of (mE_plain f h4)]; rfl), ?_⟩
  refine he X W x sc EN hsc h3 m G H h σ t _ r s rs (Good.mono (Good.bind s g0) fun rv m1 G1 H1 s1 ⟨h1, e1, r1, s01, g1⟩ v q => ?_)
  refine hf X W w sc EN hsc h4 m1 G1 H1 h1 σ t _ r1 s1.sub2 (rs.step r s1) (Good.mono (Good.bindL s1 g1) fun rw' m2 G2 H2 s2 ⟨h2, e2, r2, s02, g2⟩ v2 q2 => ?_)
  have q1 := RR.step r1 s2 q
  cases e3 : zipSrc rv rw' h2 with
  | stuck => rw [e3] at g2; exact g2.elim
  | exc _ _ =>
    exfalso
    unfold zipSrc at e3
    split at e3
    · cases e3
    · cases e3
    · cases e3
    · cases e4 : ((rv.lisc h2).bind fun xs => (rw'.lisc h2).map fun ys => Src.vals (zipD xs ys)) with
      | none => rw [e4] at e3; cases e3
      | some _ => rw [e4] at e3; cases e3
  | ok src h3 =>
    rw [e3] at g2
    obtain ⟨e4, k⟩ := zipSrc_ok e3
    subst e4
    have g3 := g2 m2 G2 H2 s02 r2
    rcases k with ⟨xs, ys, rfl, rfl, rfl⟩ | ⟨xs, ys, n1, n2, l1, l2, rfl⟩
    · obtain ⟨a, vs, rfl, t1, l1⟩ := RD.tup_of q1
      obtain ⟨b, ws, rfl, t2, l2⟩ := RD.tup_of q2
      exact ⟨a, b, vs, ws, rfl, .inr ⟨SqT.sub s2.sub2 t1, SqT.sub s2.sub2 t2, g3 _ fun h' e6 r6 => JW.zipT s2.sub2 r6 t1 l1 t2 l2⟩⟩
    · obtain ⟨a, vs, rfl, t1, k1, l1⟩ := RR.keepL s2.sub2 r2 q1 n1 l1
      obtain ⟨b, ws, rfl, t2, k2, l2⟩ := RR.keepL s2.sub2 r2 q2 n2 l2
      exact ⟨a, b, vs, ws, rfl, .inl ⟨t1, t2, g3 _ fun h' e6 r6 => JW.zipL r6 t1 k1 l1 k2 l2⟩⟩
end
end Cw
end

section
set_option Elab.async false
set_option linter.all false
set_option maxRecDepth 100000
set_option maxHeartbeats 4000000
/-! Cw17: targets that are names; comprehensions. -/
namespace Cw
open PySem PySem.Spec PyProof.Rows L2

/-! ### names set and forgotten -/
section
variable {K : PySem.W.Frag} {m : List Addr} {G : Hp} {σ : Sg} {t : L2.St}
theorem set_get {α : Type} {l : List α} {i j : Nat} {x : α} : (l.set i x)[j]? = if i = j ∧ i < l.length then some x else l[j]? := by
  by_cases h : i = j
  · subst h
    by_cases hl : i < l.length
    · rw [if_pos ⟨rfl, hl⟩, List.getElem?_set_self hl]
    · rw [if_neg fun z => hl z.2, List.set_eq_of_length_le (Nat.le_of_not_lt hl)]
  · rw [if_neg fun z => h z.1, List.getElem?_set_ne h]
theorem RS.put (r : RS K m G σ t) (i : Nat) {d : D} {v : V} (q : RD K m G d v) : RS K m G (σ.set i (some d)) (t.set i (some v)) := by
  refine ⟨by rw [List.length_set, List.length_set, r.len], fun j e he => ?_⟩
  rw [set_get] at he ⊢
  by_cases h : i = j ∧ i < σ.length
  · rw [if_pos h] at he
    rw [if_pos ⟨h.1, by rw [← r.len]; exact h.2⟩]
    cases he
    exact ⟨v, rfl, q⟩
  · rw [if_neg h] at he
    rw [if_neg fun z => h ⟨z.1, by rw [r.len]; exact z.2⟩]
    exact r.get j e he
theorem RS.clr (r : RS K m G σ t) (i : Nat) : RS K m G (σ.set i none) (t.set i none) := by
  refine ⟨by rw [List.length_set, List.length_set, r.len], fun j e he => ?_⟩
  rw [set_get] at he ⊢
  by_cases h : i = j ∧ i < σ.length
  · rw [if_pos h] at he; cases he
  · rw [if_neg h] at he
    rw [if_neg fun z => h ⟨z.1, by rw [r.len]; exact z.2⟩]
    exact r.get j e he
theorem RS.wipe (r : RS K m G σ t) : ∀ w : List (Str × Nat), RS K m G (wipeD σ w) (L2.wipe t (w.map (·.2)))
  | [] => r
  | (_, v) :: w => RS.clr (RS.wipe r w) v
theorem wipe_get {t : L2.St} {j : Nat} : ∀ vs : List Nat, (L2.wipe t vs)[j]? = if j ∈ vs ∧ j < t.length then some none else t[j]?
  | [] => by rw [if_neg (by simp)]; rfl
  | v :: vs => by
    show ((L2.wipe t vs).set v none)[j]? = _
    rw [set_get, wipe_length, wipe_get vs]
    by_cases h : v = j
    · subst h
      by_cases hl : v < t.length
      · rw [if_pos ⟨rfl, hl⟩, if_pos ⟨List.mem_cons_self, hl⟩]
      · rw [if_neg fun z => hl z.2, if_neg fun z => hl z.2, if_neg fun z => hl z.2]
    · rw [if_neg fun z => h z.1]
      by_cases hm : j ∈ vs ∧ j < t.length
      · rw [if_pos hm, if_pos ⟨List.mem_cons_of_mem _ hm.1, hm.2⟩]
      · rw [if_neg hm, if_neg fun z => hm ⟨(List.mem_cons.mp z.1).resolve_left fun q => h q.symm, z.2⟩]
theorem wipe_same {t t' : L2.St} {vs : List Nat} (l : t'.length = t.length) (h : ∀ j, j ∉ vs → t'[j]? = t[j]?) : L2.wipe t' vs = L2.wipe t vs := by
  refine List.ext_getElem? fun j => ?_
  rw [wipe_get, wipe_get, l]
  by_cases q : j ∈ vs ∧ j < t.length
  · rw [if_pos q, if_pos q]
  · rw [if_neg q, if_neg q]
    by_cases hj : j ∈ vs
    · have : t.length ≤ j := Nat.le_of_not_lt fun z => q ⟨hj, z⟩
      rw [List.getElem?_eq_none this, List.getElem?_eq_none (by rw [l]; exact this)]
    · exact h j hj
theorem wipe_wipe {t : L2.St} {vs : List Nat} : L2.wipe (L2.wipe t vs) vs = L2.wipe t vs := wipe_same (wipe_length _ _) fun j hj => by rw [wipe_get, if_neg fun z => hj z.1]
end

/-! ### targets -/
def bG (X : Cx) (e : Expr) : TG := fun v σ H Q => ∃ t, PG X e t ∧ t v σ H Q
theorem pgB {X : Cx} {e : Expr} : PG X e (bG X e) := ⟨fun pins s σ H v u Q I r ⟨t, h, q⟩ => h.run pins s σ H v u Q I r q⟩
def bGs (X : Cx) (es : List Expr) : TGs := fun v σ H Q => ∃ t, PGs X es t ∧ t v σ H Q
theorem pgsB {X : Cx} {e : List Expr} : PGs X e (bGs X e) := ⟨fun pins s σ H v u Q I r ⟨t, h, q⟩ => h.run pins s σ H v u Q I r q⟩
section
variable {X : Cx} {N : List Str} {sc : Scope}
def LocOk (X : Cx) (sc : Scope) : Prop := ∀ x, loc sc x = true → Loc X.env.scope x ∧ (X.fn x = true ∨ X.env.scope.names.lookup x = some .local)
theorem puts_ok (hN : X.N.Nodup) (hl : LocOk X sc) {K : PySem.W.Frag} {m : List Addr} {G H : Hp} : ∀ {ts : List I} {xs : List Expr} {ds : List D} {vs : List V} {σ σ1 : Sg} {τ : L2.St} {R : L2.St → Hp → Prop}, mTs X.N sc ts xs = true → putAll ts ds σ = some σ1 → RS K m G σ τ → RDs K m G ds vs →
    (∀ τ1, RS K m G σ1 τ1 → τ1.length = τ.length → (∀ j, j ∉ slotsL ts → τ1[j]? = τ[j]?) → R τ1 H) → bGs X xs vs τ H R
  | [], [], [], _, σ, σ1, τ, R, _, e, rs, .nil, k => by
    cases e
    exact ⟨_, pgs_nil, rfl, k τ rs rfl fun _ _ => rfl⟩
  | t :: ts, x :: xs, d :: ds, _, σ, σ1, τ, R, hm, e, rs, .cons (v := v) (vs := vs) q l, k => by
    cases t with
    | v i =>
      cases x with
      | Name y p =>
        obtain ⟨h12, h3⟩ := ba (show ((decide (X.N[i]? = some y) && loc sc y) && mTs X.N sc ts xs) = true from hm)
        obtain ⟨h1, h2⟩ := ba h12
        have h1 : X.N[i]? = some y := of_decide_eq_true h1
        obtain ⟨l1, l2⟩ := hl y h2
        have e : putAll ts ds (σ.set i (some d)) = some σ1 := e
        refine ⟨_, pgs_cons (pg_name hN h1 l1 l2) pgsB, v, vs, rfl, ?_⟩
        refine puts_ok hN hl h3 e (rs.put i q) l fun τ1 r1 len kp => k τ1 r1 (by rw [len, List.length_set]) fun j hj => ?_
        have hj' : j ≠ i ∧ j ∉ slotsL ts := by
          have e : slotsL (.v i :: ts) = i :: slotsL ts := rfl
          rw [e] at hj
          exact ⟨fun z => hj (by rw [z]; exact List.mem_cons_self), fun z => hj (List.mem_cons_of_mem _ z)⟩
        rw [kp j hj'.2, List.getElem?_set_ne fun z => hj'.1 z.symm]
      | _ => cases hm
    | _ => cases hm
  | t :: ts, [], _, _, _, _, _, _, hm, _, _, _, _ => by cases t <;> cases hm
  | [], x :: xs, _, _, _, _, _, _, hm, _, _, _, _ => by cases hm
  | [], [], _ :: _, _, _, _, _, _, _, e, _, _, _ => by cases e
  | t :: ts, x :: xs, [], _, _, _, _, _, _, e, _, _, _ => by cases t <;> cases e
theorem mTs_len {ts : List I} {xs : List Expr} (h : mTs N sc ts xs = true) : ts.length = xs.length := by
  induction ts generalizing xs with
  | nil => cases xs with
    | nil => rfl
    | cons _ _ => cases h
  | cons t ts ih =>
    cases xs with
    | nil => cases t <;> cases h
    | cons x xs =>
      cases t with
      | v i =>
        cases x with
        | Name y p => exact congrArg Nat.succ (ih (ba (show ((decide (N[i]? = some y) && loc sc y) && mTs N sc ts xs) = true from h)).2)
        | _ => cases h
      | _ => cases h
theorem mTs_names {env : Env} {ts : List I} {xs : List Expr} (h : mTs N sc ts xs = true) : (assignEach xs env).findIdx? (·.1) = none ∧ (assignEach xs env).length = xs.length := by
  induction ts generalizing xs with
  | nil => cases xs with
    | nil => exact ⟨rfl, rfl⟩
    | cons _ _ => cases h
  | cons t ts ih =>
    cases xs with
    | nil => cases t <;> cases h
    | cons x xs =>
      cases t with
      | v i =>
        cases x with
        | Name y p =>
          obtain ⟨i1, i2⟩ := ih (ba (show ((decide (N[i]? = some y) && loc sc y) && mTs N sc ts xs) = true from h)).2
          have e : assignEach (.Name y p :: xs) env = (false, assign (.Name y p) env) :: assignEach xs env := rfl
          rw [e]
          exact ⟨by rw [List.findIdx?_cons, i1]; rfl, congrArg Nat.succ i2⟩
        | _ => cases h
      | _ => cases h
theorem putAll_len : ∀ {ts : List I} {ds : List D} {σ σ1 : Sg}, putAll ts ds σ = some σ1 → ts.length = ds.length
  | [], [], _, _, _ => rfl
  | t :: ts, d :: ds, σ, σ1, e => by
    cases t with
    | v i => exact congrArg Nat.succ (putAll_len (show putAll ts ds (σ.set i (some d)) = some σ1 from e))
    | _ => cases e
  | [], _ :: _, _, _, e => by cases e
  | t :: _, [], _, _, e => by cases t <;> cases e
theorem put_ok (hc : X.calm = true) (hN : X.N.Nodup) (hl : LocOk X sc) {m : List Addr} {G H : Hp} (s : Sub G H) {t : I} {x : Expr} {d : D} {v : V} {σ σ1 : Sg} {τ : L2.St} {R : L2.St → Hp → Prop} (hm : mT X.N sc t x = true) (e : putT t d σ = some σ1) (rs : RS X.K m G σ τ) (q : RD X.K m G d v)
    (k : ∀ τ1, RS X.K m G σ1 τ1 → τ1.length = τ.length → (∀ j, j ∉ slots t → τ1[j]? = τ[j]?) → R τ1 H) : bG X x v τ H R := by
  cases t with
  | v i =>
    cases x with
    | Name y p =>
      obtain ⟨h1, h2⟩ := ba (show (decide (X.N[i]? = some y) && loc sc y) = true from hm)
      have h1 : X.N[i]? = some y := of_decide_eq_true h1
      obtain ⟨l1, l2⟩ := hl y h2
      have e : some (σ.set i (some d)) = some σ1 := e
      cases e
      exact ⟨_, pg_name hN h1 l1 l2, k _ (rs.put i q) (by rw [List.length_set]) fun j hj => List.getElem?_set_ne fun z => hj (by rw [← z]; exact List.mem_cons_self)⟩
    | _ => cases hm
  | tup ts =>
    cases x with
    | Tuple xs kk p =>
      have hm : mTs X.N sc ts xs = true := hm
      cases d with
      | tup ds =>
        have e : putAll ts ds σ = some σ1 := e
        obtain ⟨a, vs, rfl, q1, l⟩ := RD.tup_of q
        obtain ⟨f1, f2⟩ := mTs_names (env := X.env) hm
        refine ⟨_, pg_tup hc pgsB rfl f1, a, vs, rfl, SqT.sub s q1, ?_, ?_⟩
        · rw [f2, ← mTs_len hm, ← l.length, putAll_len e]
        · exact puts_ok hN hl hm e rs l fun τ1 r1 len kp => k τ1 r1 len kp
      | _ => cases e
    | _ => cases hm
  | _ => cases hm
theorem mTs_slots {own : List (Str × Nat)} {scope : Scope} (hN : N.Nodup) (h : ∀ y, loc scope y = true → y ∈ own.map (·.1) ∨ y ∉ N) (ix : ∀ p ∈ own, N[p.2]? = some p.1) : ∀ {ts : List I} {xs : List Expr}, mTs N scope ts xs = true → ∀ j, j ∈ slotsL ts → j ∈ own.map (·.2)
  | [], _, _, j, hj => by cases hj
  | t :: ts, x :: xs, hm, j, hj => by
    cases t with
    | v i =>
      cases x with
      | Name y p =>
        obtain ⟨h12, h3⟩ := ba (show ((decide (N[i]? = some y) && loc scope y) && mTs N scope ts xs) = true from hm)
        obtain ⟨h1, h2⟩ := ba h12
        have h1 : N[i]? = some y := of_decide_eq_true h1
        have e : slotsL (.v i :: ts) = i :: slotsL ts := rfl
        rw [e] at hj
        rcases List.mem_cons.mp hj with z | z
        · subst z
          rcases h y h2 with q | q
          · obtain ⟨p, hp, ep⟩ := List.mem_map.mp q
            have e2 := ix p hp
            rw [ep, ← h1] at e2
            have hl : p.2 < N.length := by
              rw [h1] at e2
              exact (List.getElem?_eq_some_iff.mp e2).1
            have : p.2 = j := (List.getElem?_inj hl hN).mp e2
            exact List.mem_map.mpr ⟨p, hp, this⟩
          · exact absurd (List.mem_of_getElem? h1) q
        · exact mTs_slots hN h ix h3 j z
      | _ => cases hm
    | _ => cases hm
  | t :: _, [], hm, _, _ => by cases t <;> cases hm
theorem mT_slots {own : List (Str × Nat)} {scope : Scope} (hN : N.Nodup) (h : ∀ y, loc scope y = true → y ∈ own.map (·.1) ∨ y ∉ N) (ix : ∀ p ∈ own, N[p.2]? = some p.1) {t : I} {x : Expr} (hm : mT N scope t x = true) : ∀ j, j ∈ slots t → j ∈ own.map (·.2) := by
  cases t with
  | v i =>
    cases x with
    | Name y p =>
      intro j hj
      have : mTs N scope [.v i] [.Name y p] = true := by
        show ((decide (N[i]? = some y) && loc scope y) && true) = true
        rw [Bool.and_true]; exact hm
      exact mTs_slots hN h ix this j hj
    | _ => cases hm
  | tup ts =>
    cases x with
    | Tuple xs kk p => exact mTs_slots hN h ix (show mTs N scope ts xs = true from hm)
    | _ => cases hm
  | _ => cases hm
theorem loc_of {sc : Scope} {x : Str} (h : loc sc x = true) : sc.names.lookup x = some .local ∨ sc.names.lookup x = some .cell := by
  unfold loc at h
  split at h
  · exact .inl (by assumption)
  · exact .inr (by assumption)
  · cases h
theorem lookup_mem {α : Type} : ∀ {l : List (Str × α)} {x : Str} {k : α}, l.lookup x = some k → (x, k) ∈ l
  | (y, k') :: r, x, k, h => by
    rw [List.lookup_cons] at h
    cases hb : x == y with
    | true => rw [hb] at h; cases h; have := eq_of_beq hb; subst this; exact List.mem_cons_self
    | false => rw [hb] at h; exact List.mem_cons_of_mem _ (lookup_mem h)
theorem loc_own {scope : Scope} {own : List (Str × Nat)} (ok : BlkOk N sc scope own) {y : Str} (h : loc scope y = true) : y ∈ own.map (·.1) ∨ y ∉ N := by
  rcases loc_of h with q | q
  · exact ok.own (y, .local) (lookup_mem q) (.inl rfl)
  · exact ok.own (y, .cell) (lookup_mem q) (.inr rfl)
/-- the names of a block -/
theorem loc_blk {s : Shared} {H : Hp} {scope : Scope} {cl : List (Str × Addr)} {C : Addr} {fp : List Addr} : LocOk (X.blk s H scope (compEnvC scope cl C X.env) fp) scope := by
  intro x h
  have keep : ∀ k, k ≠ .free → scope.names.lookup x = some k → (compEnvC scope cl C X.env).scope.names.lookup x = some k := fun k hk e => lookup_relS_keep (sc := X.env.scope) hk e
  rcases loc_of h with q | q
  · exact ⟨.inl (keep _ (by decide) q), .inr (keep _ (by decide) q)⟩
  · exact ⟨.inr (keep _ (by decide) q), .inl (by show (scope.names.lookup x == some .cell) = true; rw [q]; rfl)⟩
end
end Cw
end

section
set_option Elab.async false
set_option linter.all false
set_option maxRecDepth 100000
set_option maxHeartbeats 4000000
/-! Cw18: comprehensions. -/
namespace Cw
open PySem PySem.Spec PyProof.Rows L2

theorem R.bind_assoc {α β γ : Type} (r : R α) (f : α → Hh → R β) (g : β → Hh → R γ) : (r.bind f).bind g = r.bind fun a h => (f a h).bind g := by cases r <;> rfl
section
variable {c : Cs} {K : PySem.W.Frag} {m m1 m' : List Addr} {G H G1 H1 G' H' : Hp} {E : WE3} {h : Hh} {α β : Type}
theorem Good.bindN {r : R α} {f : α → Hh → R β} {P : β → List Addr → Hp → Hp → Prop} (s : Stp m G H m1 G1 H1) (g : Good c K m G H E (r.noX.bind f) P) :
    Good c K m1 G1 H1 (fun _ _ _ => False) r fun a m2 G2 H2 => ∃ h2, r = .ok a h2 ∧ Rel K m2 h2 G2 ∧ Stp m G H m2 G2 H2 ∧ Good c K m G H E (f a h2) P := by
  cases r with
  | ok a h1 => exact fun m2 G2 H2 s2 r2 => ⟨h1, rfl, r2, s.trans s2, g⟩
  | exc x h1 => exact g.elim
  | stuck => exact g
/-- a hidden object is written -/
theorem Stp.hidW (s : Stp m G H m1 G1 H1) {p : Addr} (o : HO) (n : H p = none) (g : G1 p = none) : Stp m G H m1 G1 (upd H1 p o) := by
  refine ⟨s.sub, s.sub2.updR g, s.pre, s.new, s.keepG, fun a u e na => ?_, s.seen, fun a ha he => ?_⟩
  · rw [upd_ne (ne_of_none e n)]; exact s.keepH a u e na
  · obtain ⟨u, e⟩ := he
    obtain ⟨w, hw⟩ := s.kind a ha ⟨u, e⟩
    exact ⟨w, by rw [upd_ne (ne_of_none e n)]; exact hw⟩
theorem Stp.noBefore (s : Stp m G H m1 G1 H1) {p : Addr} (n : H1 p = none) : H p = none := by
  cases e : H p with
  | none => rfl
  | some o =>
    by_cases hp : p ∈ m
    · obtain ⟨w, hw⟩ := s.kind p hp ⟨o, e⟩
      rw [n] at hw; cases hw
    · rw [s.keepH p o e hp] at n; cases n
end

section
variable {ck : Ck} {c : Cs} {tb : Tb} {n : Nat}
/-- the context of a block -/
abbrev Cx.inn (X : Cx) (scope : Scope) (s : Shared) (H : Hp) (C : Addr) (cl : List (Str × Addr)) (fp : List Addr) : Cx := X.blk s H scope (compEnvC scope cl C X.env) fp
theorem Env1.blk {X : Cx} {W : WX} (EN : Env1 ck c tb n X W) (scope : Scope) (s : Shared) (H : Hp) (C : Addr) (cl : List (Str × Addr)) (fp : List Addr) : Env1 ck c tb n (Cx.inn X scope s H C cl fp) (fun _ _ _ _ => False) :=
  ⟨EN.calm, EN.room, EN.gd, EN.nd, fun u s' ⟨a, B, sI, pins, σ, H, cls, d, e, I, nb, up, sky, na, os, ag, w⟩ => w.elim, EN.free, EN.cons, EN.fns, EN.xc⟩
/-- readings in all blocks -/
def iE (X : Cx) (scope : Scope) (x : Expr) : TE := fun σ H Q => ∀ s H0 C cl fp, bE (Cx.inn X scope s H0 C cl fp) x σ H Q
def iT (X : Cx) (scope : Scope) (xs : List Expr) : TT := fun σ H Q => ∀ s H0 C cl fp, ∃ t, PTs (Cx.inn X scope s H0 C cl fp) xs t ∧ t σ H Q
def iG (X : Cx) (scope : Scope) (x : Expr) : TG := fun v σ H Q => ∀ s H0 C cl fp, bG (Cx.inn X scope s H0 C cl fp) x v σ H Q
theorem peI {X : Cx} {scope : Scope} {x : Expr} : ∀ (s : Shared) (H : Hp) (C : Addr) (cl : List (Str × Addr)) (fp : List Addr), PE (X.blk s H scope (compEnvC scope cl C X.env) fp) x (iE X scope x) := fun s H0 C cl fp => ⟨fun pins s' σ H Q I q => peB.run pins s' σ H Q I (q s H0 C cl fp)⟩
theorem ptI {X : Cx} {scope : Scope} {x : List Expr} : ∀ (s : Shared) (H : Hp) (C : Addr) (cl : List (Str × Addr)) (fp : List Addr), PTs (X.blk s H scope (compEnvC scope cl C X.env) fp) x (iT X scope x) := fun s H0 C cl fp => ⟨fun pins s' σ H Q I q => by
  obtain ⟨t, h, q⟩ := q s H0 C cl fp
  exact h.run pins s' σ H Q I q⟩
theorem pgI {X : Cx} {scope : Scope} {x : Expr} : ∀ (s : Shared) (H : Hp) (C : Addr) (cl : List (Str × Addr)) (fp : List Addr), PG (X.blk s H scope (compEnvC scope cl C X.env) fp) x (iG X scope x) := fun s H0 C cl fp => ⟨fun pins s' σ H v u Q I r q => pgB.run pins s' σ H v u Q I r (q s H0 C cl fp)⟩

def mIfs (ck : Ck) (N : List Str) (sc : Scope) (c : I) (ifs : List Expr) : Bool := match ifs with
  | [] => (match c with
    | .c (.bl true) => true
    | _ => false)
  | [q] => mE ck N sc c q
  | _ => false
theorem mE_lc {N : List Str} {sc scope : Scope} {e t i cnd : I} {w : List (Str × Nat)} {x y z : Expr} {ifs : List Expr} {a : Int} {pos : Pos} : mE ck N sc (.lc e t i cnd w) (.ListComp x [⟨y, z, ifs, a⟩] scope pos) =
    ((((((decide (a = 0) && blkC N sc scope w) && mI ck N sc i z) && mT N scope t y) && (!isPairIt i || isTupT t)) && mE ck N (relS scope sc) e x) && mIfs ck N (relS scope sc) cnd ifs) := by
  cases ifs with
  | nil => rfl
  | cons q r => cases r <;> rfl
theorem mE_lcInv {N : List Str} {sc : Scope} {e t i cnd : I} {w : List (Str × Nat)} {x : Expr} (h : mE ck N sc (.lc e t i cnd w) x = true) : ∃ x' y z ifs a scope pos, x = .ListComp x' [⟨y, z, ifs, a⟩] scope pos := by
  unfold mE at h
  split at h <;> first | exact ⟨_, _, _, _, _, _, _, rfl⟩ | cases h | contradiction
/-- the clauses of a comprehension -/
theorem ifs_ok {cnd : I} (hc : ST ck c tb n cnd) {X : Cx} {W : WX} (EN : Env1 ck c tb n X W) {scope : Scope} {ifs : List Expr} (hm : mIfs ck X.N (relS scope X.env.scope) cnd ifs = true) {m m0 : List Addr} {G H G0 H0 : Hp} {h : Hh} {σ : Sg} {t : L2.St} {Q : Bool → Hp → Prop} {E : WE3} {β : Type} {f : RV → Hh → R β} {P : β → List Addr → Hp → Hp → Prop}
    (r : Rel X.K m h G) (s : Stp m0 G0 H0 m G H) (rs : RS X.K m G σ t) (g : Good c X.K m0 G0 H0 E (((ev (runB tb n) cnd σ h).noX).bind f) P)
    (k : ∀ b h2 m2 G2 H2, Stp m G H m2 G2 H2 → Rel X.K m2 h2 G2 → Good c X.K m0 G0 H0 E (f (.d (.bl b)) h2) P → Q b H2)
    (kb : ∀ rv h2, Good c X.K m0 G0 H0 E (f rv h2) P → ∃ b, rv = .d (.bl b)) : iT X scope ifs t H Q := by
  intro s' H' C cl fp
  have EN2 := EN.blk scope s' H' C cl fp
  match ifs, hm with
  | [], hm =>
    refine ⟨_, pts_nil, ?_⟩
    cases cnd with
    | c d =>
      cases d with
      | bl b =>
        cases b with
        | true => exact k true h m G H (.refl s.sub2) r g
        | false => cases hm
      | _ => cases hm
    | _ => cases hm
  | [q], hm =>
    refine ⟨_, pts_one ptB, ?_⟩
    refine hc (Cx.inn X scope s' H' C cl fp) _ q (relS scope X.env.scope) EN2 rfl hm m G H h σ t _ r s.sub2 rs ?_
    have g1 := Good.bindN s g
    cases e : ev (runB tb n) cnd σ h with
    | stuck => rw [e] at g1; exact g1.elim
    | exc _ _ => rw [e] at g; exact g.elim
    | ok rv h1 =>
      intro m2 G2 H2 s2 r2
      rw [e] at g
      obtain ⟨b, eb⟩ := kb rv h1 g
      subst eb
      exact ⟨b, rfl, k b h1 m2 G2 H2 s2 r2 g⟩
  | _ :: _ :: _, hm => cases hm

/-- the turns of a comprehension -/
theorem turns_lc {e t cnd : I} {w : List (Str × Nat)} (he : SE ck c tb n e) (hc : ST ck c tb n cnd) {X : Cx} {W : WX} {x y : Expr} {ifs : List Expr} {scope : Scope} (EN : Env1 ck c tb n X W)
    (h2 : blkC X.N X.env.scope scope w = true) (h4 : mT X.N scope t y = true) (h6 : mE ck X.N (relS scope X.env.scope) e x = true) (h7 : mIfs ck X.N (relS scope X.env.scope) cnd ifs = true)
    {m m1 : List Addr} {G H G1 H1 : Hp} {h1 : Hh} {σ : Sg} {τ : L2.St} {Q : VK} {E : WE3} {src : Src} {xs : List Cw.D} {J : It} (s01 : Stp m G H m1 G1 H1) (r1 : Rel X.K m1 h1 G1) (rs1 : RS X.K m1 G1 σ τ) (jw : JW X.K src xs J m1 G1 H1) (L : Lim X.K H1)
    (g1 : Good c X.K m G H E ((turns t (ev (runB tb n) cnd) (ev (runB tb n) e) src (wipeD σ w) xs 0 h1).bind fun l h => .ok (RV.lst l) h) (fun rv m' G' H' => ∀ v, RR X.K H m' G' H' rv v → Q v H')) (D : Addr) (hD : H1 D = none) :
    ∃ W : Nat → Nat → Hp → Prop, (∃ m, W 0 m (upd H1 D (.lst []))) ∧ ∀ i m H, W i m H →
      (J.stop i H ∧ Q (.ref D) H) ∨ (J.go i H ∧ ∃ Nx : Hp → Prop, (∀ H', Nx H' → ∃ m', m' < m ∧ W (i + 1) m' H') ∧ ∀ x' H', J.yld i H x' H' → iG X scope y x' (L2.wipe τ (w.map (·.2))) H' fun σ2 H2 => L2.wipe σ2 (w.map (·.2)) = L2.wipe τ (w.map (·.2)) ∧ iT X scope ifs σ2 H2 fun b H3 =>
        if b = true then iE X scope x σ2 H3 fun y H4 => ∃ acc, H4 D = some (.lst acc) ∧ acc.length < sizeLine ∧ Nx (upd H4 D (.lst (acc ++ [y]))) else Nx H3) := by
  have ok := blkOk_by h2
  have sl : ∀ j, j ∈ slots t → j ∈ w.map (·.2) := mT_slots EN.nd (fun y hy => loc_own ok hy) ok.ix h4
  have s1 := s01
  -- what stands at turn i
  let Iv : Nat → Nat → Hp → Prop := fun i k Hc => k = xs.length - i ∧ i ≤ xs.length ∧ ∃ (m2 : List Addr) (G2 : Hp) (h2 : Hh) (accD : List Cw.D) (accV : List V), Stp m1 G1 H1 m2 G2 Hc ∧ Rel X.K m2 h2 G2 ∧ Hc D = some (.lst accV) ∧ G2 D = none ∧ D ∉ m2 ∧ RDs X.K m2 G2 accD accV ∧ accD.length ≤ i ∧
    Good c X.K m G H E ((turns t (ev (runB tb n) cnd) (ev (runB tb n) e) src (wipeD σ w) (xs.drop i) i h2).bind fun l h => .ok (RV.lst (accD ++ l)) h) (fun rv m' G' H' => ∀ v, RR X.K H m' G' H' rv v → Q v H')
  have hD0 : H D = none := s01.noBefore hD
  have gD : G1 D = none := s1.sub2.no hD
  refine ⟨Iv, ⟨xs.length, rfl, Nat.zero_le _, m1, G1, h1, [], [], Stp.newH s1.sub2 r1 hD _, r1, upd_same, gD, Rel.outNew s1.sub2 r1 hD, .nil, Nat.le_refl _, ?_⟩, fun j k Hc ⟨ek, hj, m2, G2, h2, accD, accV, st, r2, eD, gD2, nD, l, la, g2⟩ => ?_⟩
  · exact g1
  cases hx : xs[j]? with
  | none =>
    have hl : xs.length ≤ j := List.getElem?_eq_none_iff.mp hx
    have hj' : j = xs.length := Nat.le_antisymm hj hl
    subst hj'
    rw [List.drop_eq_nil_of_le (Nat.le_refl _)] at g2
    have e2 : turns t (ev (runB tb n) cnd) (ev (runB tb n) e) src (wipeD σ w) [] xs.length h2 = if src.fin h2 xs.length then R.ok [] h2 else R.stuck := rfl
    rw [e2] at g2
    by_cases hf : src.fin h2 xs.length = true
    · rw [if_pos hf] at g2
      have g3 : Good c X.K m G H E (R.ok (RV.lst (accD ++ [])) h2) _ := g2
      rw [List.append_nil] at g3
      exact .inl ⟨jw.stop m2 G2 Hc h2 st r2 hf, g3 m2 G2 Hc (s01.trans st) r2 _ ⟨D, accV, rfl, eD, gD2, nD, hD0, l⟩⟩
    · rw [if_neg hf] at g2; exact g2.elim
  | some x0 =>
    have hlt : j < xs.length := (List.getElem?_eq_some_iff.mp hx).1
    have ed : xs.drop j = x0 :: xs.drop (j + 1) := by
      rw [List.drop_eq_getElem_cons hlt, (List.getElem?_eq_some_iff.mp hx).2]
    rw [ed] at g2
    have e2 : turns t (ev (runB tb n) cnd) (ev (runB tb n) e) src (wipeD σ w) (x0 :: xs.drop (j + 1)) j h2 = (match src.cur h2 j x0 with
      | none => R.stuck
      | some x => match putT t x (wipeD σ w) with
        | none => .stuck
        | some σ1 => (ev (runB tb n) cnd σ1 h2).noX.bind fun b h1 => match b with
          | .d (.bl true) => (ev (runB tb n) e σ1 h1).noX.bind fun y h2 => match y.toD with
            | none => .stuck
            | some y => (turns t (ev (runB tb n) cnd) (ev (runB tb n) e) src (wipeD σ w) (xs.drop (j + 1)) (j + 1) h2).bind fun l h3 => .ok (y :: l) h3
          | .d (.bl false) => turns t (ev (runB tb n) cnd) (ev (runB tb n) e) src (wipeD σ w) (xs.drop (j + 1)) (j + 1) h1
          | _ => .stuck) := rfl
    rw [e2] at g2
    cases hcur : src.cur h2 j x0 with
    | none => rw [hcur] at g2; exact g2.elim
    | some y0 =>
      rw [hcur] at g2
      cases hput : putT t y0 (wipeD σ w) with
      | none => simp only [hput] at g2; exact g2.elim
      | some σ1 =>
        simp only [hput] at g2
        obtain ⟨j1, j2⟩ := jw.go m2 G2 Hc h2 j x0 y0 st r2 hx hcur
        refine .inr ⟨j1, fun H' => Iv (j + 1) (xs.length - (j + 1)) H', fun H' iv => ⟨_, by omega, iv⟩, fun v H3 hy => ?_⟩
        obtain ⟨G3, s23, r3, q3⟩ := j2 v H3 hy
        have s13 := st.trans s23
        have eD3 : H3 D = some (.lst accV) := s23.keepH D _ eD nD
        have gD3 : G3 D = none := s23.stillHid gD2 eD
        have l3 := l.step r2 s23
        have rs3 : RS X.K m2 G3 (wipeD σ w) (L2.wipe τ (w.map (·.2))) := RS.wipe (rs1.step r1 s13) w
        -- a turn behind which the list is as it was, or has one more
        intro s' H0' C' cl' fp'
        refine put_ok (X := Cx.inn X scope s' H0' C' cl' fp') EN.calm EN.nd loc_blk s23.sub2 h4 hput rs3 q3 fun τ1 r1' len kp => ⟨?_, ?_⟩
        · rw [← wipe_wipe (t := τ)]
          exact wipe_same len fun j hj => kp j fun z => hj (sl j z)
        rw [R.bind_assoc] at g2
        refine ifs_ok hc EN h7 r3 (s01.trans s13) r1' g2 (fun b h4 m4 G4 H4 s34 r4 g4 => ?_) (fun rv h4 g4 => ?_)
        · have s14 := s13.trans s34
          have eD4 : H4 D = some (.lst accV) := s34.keepH D _ eD3 nD
          have gD4 : G4 D = none := s34.stillHid gD3 eD3
          have nD4 : D ∉ m4 := s34.out nD eD3
          have l4 := l3.step r3 s34
          cases b with
          | false =>
            rw [if_neg (by decide)]
            exact ⟨rfl, hlt, m4, G4, h4, accD, accV, s14, r4, eD4, gD4, nD4, l4, Nat.le_succ_of_le la, g4⟩
          | true =>
            rw [if_pos rfl]
            have g5 : Good c X.K m G H E (((ev (runB tb n) e σ1 h4).noX).bind fun y h => (match y.toD with
              | none => R.stuck
              | some y => (turns t (ev (runB tb n) cnd) (ev (runB tb n) e) src (wipeD σ w) (xs.drop (j + 1)) (j + 1) h).bind fun l h3 => .ok (y :: l) h3).bind fun l h => .ok (RV.lst (accD ++ l)) h) (fun rv m' G' H' => ∀ v, RR X.K H m' G' H' rv v → Q v H') := by
              rw [R.bind_assoc] at g4; exact g4
            intro s'' H0'' C'' cl'' fp''
            refine he (Cx.inn X scope s'' H0'' C'' cl'' fp'') _ x (relS scope X.env.scope) (EN.blk scope s'' H0'' C'' cl'' fp'') rfl h6 m4 G4 H4 h4 σ1 τ1 _ r4 s34.sub2 (r1'.step r3 s34) (Good.mono (Good.bindN (s01.trans s14) g5) fun rv m5 G5 H5 s45 ⟨h5, _, r5, s05, g6⟩ u q5 => ?_)
            cases hd : rv.toD with
            | none => simp only [hd] at g6; exact g6.elim
            | some d =>
              simp only [hd] at g6
              obtain ⟨G6, s46, r6, q6, _⟩ := RR.toD s45 r5 q5 hd
              have s16 := s14.trans s46
              have eD6 : H5 D = some (.lst accV) := s46.keepH D _ eD4 nD4
              have gD6 : G6 D = none := s46.stillHid gD4 eD4
              have nD6 : D ∉ m5 := s46.out nD4 eD4
              have l6 := l4.step r4 s46
              refine ⟨accV, eD6, ?_, rfl, hlt, m5, G6, h5, accD ++ [d], accV ++ [u], Stp.hidW s16 _ hD gD6, r6, upd_same, gD6, nD6, l6.app (.cons q6 .nil), ?_, ?_⟩
              · have := jw.len L
                rw [← l4.length]; omega
              · rw [List.length_append]; exact Nat.succ_le_succ la
              · rw [R.bind_assoc] at g6
                have e7 : (fun (l : List Cw.D) (h3 : Hh) => (R.ok (d :: l) h3).bind fun l h => R.ok (RV.lst (accD ++ l)) h) = fun l h => R.ok (RV.lst ((accD ++ [d]) ++ l)) h := by
                  funext l h
                  show R.ok (RV.lst (accD ++ d :: l)) h = _
                  rw [List.append_assoc]; rfl
                rw [e7] at g6
                exact g6
        · cases rv with
          | d d =>
            cases d with
            | bl b => exact ⟨b, rfl⟩
            | _ => exact g4.elim
          | _ => exact g4.elim
theorem tlc_ok {e t i cnd : I} {w : List (Str × Nat)} (he : SE ck c tb n e) (hi : SI ck c tb n i) (hc : ST ck c tb n cnd) {X : Cx} {W : WX} {x y z : Expr} {ifs : List Expr} {a : Int} {scope : Scope} {pos : Pos} (EN : Env1 ck c tb n X W) (hm : mE ck X.N X.env.scope (.lc e t i cnd w) (.ListComp x [⟨y, z, ifs, a⟩] scope pos) = true)
    {m : List Addr} {G H : Hp} {h : Hh} {σ : Sg} {τ : L2.St} {Q : VK} (r : Rel X.K m h G) (s : Sub G H) (rs : RS X.K m G σ τ)
    (g : Good c X.K m G H (fun C d H' => W C d τ H') (ev (runB tb n) (.lc e t i cnd w) σ h) (fun rv m' G' H' => ∀ v, RR X.K H m' G' H' rv v → Q v H')) :
    a = 0 ∧ BlkOk X.N X.env.scope scope w ∧ isWith z = true ∧ tLc (bI X y z) (iG X scope y) (iT X scope ifs) (iE X scope x) (w.map (·.2)) τ H Q := by
  rw [mE_lc] at hm
  obtain ⟨hm, h7⟩ := ba hm
  obtain ⟨hm, h6⟩ := ba hm
  obtain ⟨hm, h5⟩ := ba hm
  obtain ⟨hm, h4⟩ := ba hm
  obtain ⟨hm, h3⟩ := ba hm
  obtain ⟨h1, h2⟩ := ba hm
  have h1 : a = 0 := of_decide_eq_true h1
  subst h1
  have ok := blkOk_by h2
  have hp : isPairIt i = true → isTupX y = true := fun hi => by
    rw [hi] at h5
    have h5 : isTupT t = true := h5
    cases t with
    | tup ts => cases y <;> first | rfl | exact Bool.noConfusion (show false = true from h4)
    | _ => exact Bool.noConfusion (show false = true from h5)
  refine ⟨rfl, ok, mI_with h3, ?_⟩
  have g0 : Good c X.K m G H (fun C d H' => W C d τ H') ((evi (runB tb n) i σ h).bind fun s h => (turns t (ev (runB tb n) cnd) (ev (runB tb n) e) s (wipeD σ w) (s.items h) 0 h).bind fun l h => .ok (RV.lst l) h) _ := g
  -- the iterable, its length
  have ip : bI X y z τ H (fun J H1 => Lim X.K H1 → ∀ D, H1 D = none → ∃ W : Nat → Nat → Hp → Prop, (∃ m, W 0 m (upd H1 D (.lst []))) ∧ ∀ i m H, W i m H →
      (J.stop i H ∧ Q (.ref D) H) ∨ (J.go i H ∧ ∃ Nx : Hp → Prop, (∀ H', Nx H' → ∃ m', m' < m ∧ W (i + 1) m' H') ∧ ∀ x' H', J.yld i H x' H' → iG X scope y x' (L2.wipe τ (w.map (·.2))) H' fun σ2 H2 => L2.wipe σ2 (w.map (·.2)) = L2.wipe τ (w.map (·.2)) ∧ iT X scope ifs σ2 H2 fun b H3 =>
        if b = true then iE X scope x σ2 H3 fun y H4 => ∃ acc, H4 D = some (.lst acc) ∧ acc.length < sizeLine ∧ Nx (upd H4 D (.lst (acc ++ [y]))) else Nx H3)) := ?_
  · obtain ⟨ti, hti, qi⟩ := ip
    exact ⟨_, piL hti, qi⟩
  refine hi X W y z X.env.scope EN rfl h3 hp m G H h σ τ _ r s rs (Good.mono (Good.bind s g0) fun src m1 G1 H1 s1 ⟨h1, e1, r1, s01, g1⟩ J hJ L D hD => ?_)
  have jw := hJ h1 e1 r1
  generalize hxs : Src.items h1 src = xs at jw
  rw [hxs] at g1
  exact turns_lc he hc EN h2 h4 h6 h7 s01 r1 (rs.step r s01) jw L g1 D hD
theorem se_lc {e t i cnd : I} {w : List (Str × Nat)} (he : SE ck c tb n e) (hi : SI ck c tb n i) (hc : ST ck c tb n cnd) : SE ck c tb n (.lc e t i cnd w) := by
  intro X W x sc EN hsc hm m G H h σ τ Q r s rs g
  subst hsc
  obtain ⟨x, y, z, ifs, a, scope, pos, rfl⟩ := mE_lcInv hm
  obtain ⟨e0, ok, hw, q⟩ := tlc_ok he hi hc EN hm r s rs g
  subst e0
  exact ⟨_, pe_lc (g := iG X scope y) (tt := iT X scope ifs) (te := iE X scope x) EN.calm EN.nd piB ok pgI ptI peI (fun _ => fold_pure hw), q⟩
end
end Cw
end

section
set_option Elab.async false
set_option linter.all false
set_option maxRecDepth 100000
set_option maxHeartbeats 4000000
/-! Cw18w: comprehensions with two walks; the inner one over a range. -/
namespace Cw
open PySem PySem.Spec PyProof.Rows L2
section
variable {ck : Ck} {c : Cs} {tb : Tb} {n : Nat}
theorem fewR_ok {k : Nat} {α : Type} {r : R α} {c : Cs} {K : PySem.W.Frag} {m : List Addr} {G H : Hp} {E : WE3} {P : α → List Addr → Hp → Hp → Prop} (g : Good c K m G H E (fewR k r) P) : k < 4000 ∧ Good c K m G H E r P := by
  unfold fewR at g
  by_cases h : k < 4000
  · rw [if_pos h] at g; exact ⟨h, g⟩
  · rw [if_neg h] at g; exact g.elim
def iI (X : Cx) (scope : Scope) (y z : Expr) : TI := fun σ H Q => ∀ s H0 C cl fp, bI (Cx.inn X scope s H0 C cl fp) y z σ H Q
theorem piI {X : Cx} {scope : Scope} {y z : Expr} : ∀ (s : Shared) (H : Hp) (C : Addr) (cl : List (Str × Addr)) (fp : List Addr), PI (X.blk s H scope (compEnvC scope cl C X.env) fp) y z (iI X scope y z) := fun s H0 C cl fp => ⟨fun pins s' σ H R I q => piB.run pins s' σ H R I (q s H0 C cl fp)⟩
theorem iT_nil {X : Cx} {scope : Scope} {σ : L2.St} {H : Hp} {Q : Bool → Hp → Prop} (q : Q true H) : iT X scope [] σ H Q := fun s H0 C cl fp => ⟨_, pts_nil, q⟩
theorem mE_lc2Inv {N : List Str} {sc : Scope} {e t i t2 : I} {es2 : List I} {w w2 : List (Str × Nat)} {x : Expr} (h : mE ck N sc (.lc2 e t i t2 es2 w w2) x = true) : ∃ x' y z y2 p xs p2 scope pos, x = .ListComp x' [⟨y, z, [], 0⟩, ⟨y2, .Call (.Name "range" p) xs [] p2, [], 0⟩] scope pos ∧
    blkC N sc scope w = true ∧ mI ck N sc i z = true ∧ mT N scope t y = true ∧ (!isPairIt i || isTupT t) = true ∧ mI ck N (relS scope sc) (.rng es2) (.Call (.Name "range" p) xs [] p2) = true ∧ mT N scope t2 y2 = true ∧ (∀ q ∈ w2, q.2 ∈ w.map (·.2)) ∧ (∀ j ∈ slots t2, j ∈ w2.map (·.2)) ∧ mE ck N (relS scope sc) e x' = true := by
  unfold mE at h
  split at h <;> first | contradiction | skip
  rename_i e0
  cases e0
  obtain ⟨h, k15⟩ := ba h
  obtain ⟨h, k14⟩ := ba h
  obtain ⟨h, k13⟩ := ba h
  obtain ⟨h, k12⟩ := ba h
  obtain ⟨h, k11⟩ := ba h
  obtain ⟨h, k10⟩ := ba h
  obtain ⟨h, k9⟩ := ba h
  obtain ⟨h, k8⟩ := ba h
  obtain ⟨h, k7⟩ := ba h
  obtain ⟨h, k6⟩ := ba h
  obtain ⟨h, k5⟩ := ba h
  obtain ⟨h, k4⟩ := ba h
  obtain ⟨h, k3⟩ := ba h
  obtain ⟨k1, k2⟩ := ba h
  have k1 := of_decide_eq_true k1
  have k2 := of_decide_eq_true k2
  have k7 := of_decide_eq_true k7
  subst k1 k2 k7
  refine ⟨_, _, _, _, _, _, _, _, _, rfl, k3, k4, k5, k6, ?_, k12, fun q hq => by simpa using List.all_eq_true.mp k13 q hq, fun j hj => by simpa using List.all_eq_true.mp k14 j hj, k15⟩
  show ((((decide (("range" : Str) = ("range" : Str)) && bltn ck _ ("range" : Str)) && !_) && decide _) && mEs ck N _ es2 _) = true
  rw [decide_eq_true rfl, k8, k9, k10, k11]
  rfl
theorem R.noX_bind {α β : Type} (r : R α) (f : α → Hh → R β) : (r.bind f).noX = r.noX.bind fun a h => (f a h).noX := by cases r <;> rfl
theorem R.noX_noX {α : Type} (r : R α) : r.noX.noX = r.noX := by cases r <;> rfl
theorem lc2_ok {e t i t2 : I} {es2 : List I} {w w2 : List (Str × Nat)} (he : SE ck c tb n e) (hi : SI ck c tb n i) (hs2 : SEs ck c tb n es2) {X : Cx} {W : WX} {x y z y2 z2 : Expr} {scope : Scope} (EN : Env1 ck c tb n X W)
    (h2 : blkC X.N X.env.scope scope w = true) (h3 : mI ck X.N X.env.scope i z = true) (h4 : mT X.N scope t y = true) (h5 : (!isPairIt i || isTupT t) = true) (k5 : mI ck X.N (relS scope X.env.scope) (.rng es2) z2 = true) (h6 : mT X.N scope t2 y2 = true) (h7 : ∀ j ∈ slots t2, j ∈ w2.map (·.2)) (h8 : mE ck X.N (relS scope X.env.scope) e x = true)
    {m : List Addr} {G H : Hp} {h : Hh} {σ : Sg} {τ : L2.St} {Q : VK} (r : Rel X.K m h G) (s : Sub G H) (rs : RS X.K m G σ τ)
    (g : Good c X.K m G H (fun C d H' => W C d τ H') (ev (runB tb n) (.lc2 e t i t2 es2 w w2) σ h) (fun rv m' G' H' => ∀ v, RR X.K H m' G' H' rv v → Q v H')) :
    tLc2 (bI X y z) (iG X scope y) (iT X scope []) (iI X scope y2 z2) (iG X scope y2) (iT X scope []) (iE X scope x) (w.map (·.2)) (w2.map (·.2)) τ H Q := by
  have ok := blkOk_by h2
  have sl : ∀ j, j ∈ slots t → j ∈ w.map (·.2) := mT_slots EN.nd (fun y hy => loc_own ok hy) ok.ix h4
  have hp : isPairIt i = true → isTupX y = true := fun hi => by
    rw [hi] at h5
    have h5 : isTupT t = true := h5
    cases t with
    | tup ts => cases y <;> first | rfl | exact Bool.noConfusion (show false = true from h4)
    | _ => exact Bool.noConfusion (show false = true from h5)
  let B : Sg → Hh → R (List D) := fun σ h => (evs (runB tb n) es2 σ h).bind fun ds h => inR t2 (ev (runB tb n) e) (wipeD σ w2) ds h
  have g0 : Good c X.K m G H (fun C d H' => W C d τ H') ((evi (runB tb n) i σ h).bind fun s h => fewR (s.items h).length ((outer t B s (wipeD σ w) (s.items h) 0 h).bind fun l h => .ok (RV.lst l) h)) _ := g
  refine hi X W y z X.env.scope EN rfl h3 hp m G H h σ τ _ r s rs (Good.mono (Good.bind s g0) fun src m1 G1 H1 s1 ⟨h1, e1, r1, s01, g1⟩ J hJ D hD => ?_)
  have jw := hJ h1 e1 r1
  generalize hxs : Src.items h1 src = xs at jw
  rw [hxs] at g1
  obtain ⟨lx, g1⟩ := fewR_ok g1
  have rs1 := rs.step r s1
  have hD0 : H D = none := s01.noBefore hD
  have gD : G1 D = none := s1.sub2.no hD
  let Iv : Nat → Nat → Hp → Prop := fun i k Hc => k = xs.length - i ∧ i ≤ xs.length ∧ ∃ (m2 : List Addr) (G2 : Hp) (h2 : Hh) (accD : List Cw.D) (accV : List V), Stp m1 G1 H1 m2 G2 Hc ∧ Rel X.K m2 h2 G2 ∧ Hc D = some (.lst accV) ∧ G2 D = none ∧ D ∉ m2 ∧ RDs X.K m2 G2 accD accV ∧ accD.length ≤ i * 4000 ∧
    Good c X.K m G H (fun C d H' => W C d τ H') ((outer t B src (wipeD σ w) (xs.drop i) i h2).bind fun l h => .ok (RV.lst (accD ++ l)) h) (fun rv m' G' H' => ∀ v, RR X.K H m' G' H' rv v → Q v H')
  refine ⟨Iv, ⟨xs.length, rfl, Nat.zero_le _, m1, G1, h1, [], [], Stp.newH s1.sub2 r1 hD _, r1, upd_same, gD, Rel.outNew s1.sub2 r1 hD, .nil, Nat.zero_le _, g1⟩, fun j k Hc ⟨ek, hj, m2, G2, h2, accD, accV, st, r2, eD, gD2, nD, l, la, g2⟩ => ?_⟩
  cases hx : xs[j]? with
  | none =>
    have hl : xs.length ≤ j := List.getElem?_eq_none_iff.mp hx
    have hj' : j = xs.length := Nat.le_antisymm hj hl
    subst hj'
    rw [List.drop_eq_nil_of_le (Nat.le_refl _)] at g2
    have e2 : outer t B src (wipeD σ w) [] xs.length h2 = if src.fin h2 xs.length then R.ok [] h2 else R.stuck := rfl
    rw [e2] at g2
    by_cases hf : src.fin h2 xs.length = true
    · rw [if_pos hf] at g2
      have g3 : Good c X.K m G H _ (R.ok (RV.lst (accD ++ [])) h2) _ := g2
      rw [List.append_nil] at g3
      exact .inl ⟨jw.stop m2 G2 Hc h2 st r2 hf, g3 m2 G2 Hc (s01.trans st) r2 _ ⟨D, accV, rfl, eD, gD2, nD, hD0, l⟩⟩
    · rw [if_neg hf] at g2; exact g2.elim
  | some x0 =>
    have hlt : j < xs.length := (List.getElem?_eq_some_iff.mp hx).1
    have ed : xs.drop j = x0 :: xs.drop (j + 1) := by
      rw [List.drop_eq_getElem_cons hlt, (List.getElem?_eq_some_iff.mp hx).2]
    rw [ed] at g2
    have e2 : outer t B src (wipeD σ w) (x0 :: xs.drop (j + 1)) j h2 = (match src.cur h2 j x0 with
      | none => R.stuck
      | some x => match putT t x (wipeD σ w) with
        | none => .stuck
        | some σ1 => (B σ1 h2).noX.bind fun ys h1 => (outer t B src (wipeD σ w) (xs.drop (j + 1)) (j + 1) h1).bind fun l h2 => .ok (ys ++ l) h2) := rfl
    rw [e2] at g2
    cases hcur : src.cur h2 j x0 with
    | none => rw [hcur] at g2; exact g2.elim
    | some y0 =>
      rw [hcur] at g2
      cases hput : putT t y0 (wipeD σ w) with
      | none => simp only [hput] at g2; exact g2.elim
      | some σ1 =>
        simp only [hput] at g2
        obtain ⟨j1, j2⟩ := jw.go m2 G2 Hc h2 j x0 y0 st r2 hx hcur
        refine .inr ⟨j1, fun H' => Iv (j + 1) (xs.length - (j + 1)) H', fun H' iv => ⟨_, by omega, iv⟩, fun v H3 hy => ?_⟩
        obtain ⟨G3, s23, r3, q3⟩ := j2 v H3 hy
        have s13 := st.trans s23
        have eD3 : H3 D = some (.lst accV) := s23.keepH D _ eD nD
        have gD3 : G3 D = none := s23.stillHid gD2 eD
        have l3 := l.step r2 s23
        have rs3 : RS X.K m2 G3 (wipeD σ w) (L2.wipe τ (w.map (·.2))) := RS.wipe (rs1.step r1 s13) w
        intro s' H0' C' cl' fp'
        refine put_ok (X := Cx.inn X scope s' H0' C' cl' fp') EN.calm EN.nd loc_blk s23.sub2 h4 hput rs3 q3 fun τ1 r1' len kp => ⟨?_, iT_nil ?_⟩
        · rw [← wipe_wipe (t := τ)]
          exact wipe_same len fun j hj => kp j fun z => hj (sl j z)
        rw [if_pos rfl]
        -- the inner walk
        rw [R.bind_assoc] at g2
        let F : List Cw.D → Hh → R RV := fun ys h1 => ((outer t B src (wipeD σ w) (xs.drop (j + 1)) (j + 1) h1).bind fun l h2 => .ok (ys ++ l) h2).bind fun l h => .ok (RV.lst (accD ++ l)) h
        have g2 : Good c X.K m G H (fun C d H' => W C d τ H') (((evs (runB tb n) es2 σ1 h2).bind fun ds h => inR t2 (ev (runB tb n) e) (wipeD σ1 w2) ds h).noX.bind F) (fun rv m' G' H' => ∀ v, RR X.K H m' G' H' rv v → Q v H') := g2
        intro s'' H0'' C'' cl'' fp''
        refine si_rngS hs2 (Cx.inn X scope s'' H0'' C'' cl'' fp'') _ y2 z2 (relS scope X.env.scope) (EN.blk scope s'' H0'' C'' cl'' fp'') rfl k5 m2 G3 H3 h2 σ1 τ1 _ r3 s23.sub2 r1' ?_
        cases ee : evs (runB tb n) es2 σ1 h2 with
        | stuck => rw [ee] at g2; exact g2.elim
        | exc _ _ => rw [ee] at g2; exact g2.elim
        | ok ds h4 =>
          rw [ee] at g2
          have g2 : Good c X.K m G H (fun C d H' => W C d τ H') ((inR t2 (ev (runB tb n) e) (wipeD σ1 w2) ds h4).noX.bind F) (fun rv m' G' H' => ∀ v, RR X.K H m' G' H' rv v → Q v H') := g2
          unfold inR at g2
          cases er : rngOp ds with
          | none => rw [er] at g2; exact g2.elim
          | some ys =>
            simp only [er] at g2
            by_cases ly : ys.length < 4000
            · unfold fewR at g2
              rw [if_pos ly] at g2
              show Good c X.K m2 G3 H3 _ (R.ofO ((rngOp ds).map Src.vals) h4) _
              rw [er]
              intro m4 G4 H4 s34 r4 J1 ys' eys jw1
              cases eys
              have s14 := s13.trans s34
              have eD4 : H4 D = some (.lst accV) := s34.keepH D _ eD3 nD
              have gD4 : G4 D = none := s34.stillHid gD3 eD3
              have nD4 : D ∉ m4 := s34.out nD eD3
              have l4 := l3.step r3 s34
              have rs4 := r1'.step r3 s34
              let Iw : Nat → Nat → Hp → Prop := fun j1 k1 Hc => k1 = ys.length - j1 ∧ j1 ≤ ys.length ∧ ∃ (m5 : List Addr) (G5 : Hp) (h5 : Hh) (part : List Cw.D) (accV' : List V), Stp m1 G1 H1 m5 G5 Hc ∧ Rel X.K m5 h5 G5 ∧ Hc D = some (.lst accV') ∧ G5 D = none ∧ D ∉ m5 ∧ RDs X.K m5 G5 (accD ++ part) accV' ∧ part.length ≤ j1 ∧ RS X.K m5 G5 σ1 τ1 ∧
                Good c X.K m G H (fun C d H' => W C d τ H') ((inner t2 (ev (runB tb n) e) (wipeD σ1 w2) (ys.drop j1) h5).noX.bind fun l h => F (part ++ l) h) (fun rv m' G' H' => ∀ v, RR X.K H m' G' H' rv v → Q v H')
              refine ⟨Iw, ⟨ys.length, rfl, Nat.zero_le _, m4, G4, h4, [], accV, s14, r4, eD4, gD4, nD4, by rw [List.append_nil]; exact l4, Nat.le_refl _, rs4, g2⟩, fun j1 k1 Hc ⟨ek1, hj1, m5, G5, h5, part, accV', st5, r5, eD5, gD5, nD5, l5, lp, rs5, g5⟩ => ?_⟩
              cases hy1 : ys[j1]? with
              | none =>
                have hl : ys.length ≤ j1 := List.getElem?_eq_none_iff.mp hy1
                have hj' : j1 = ys.length := Nat.le_antisymm hj1 hl
                subst hj'
                refine .inl ⟨(jw1 m5 G5 Hc).stop m5 G5 Hc h5 (.refl st5.sub2) r5 rfl, rfl, hlt, m5, G5, h5, accD ++ part, accV', st5, r5, eD5, gD5, nD5, l5, ?_, ?_⟩
                · rw [List.length_append]; omega
                · rw [List.drop_eq_nil_of_le (Nat.le_refl _)] at g5
                  have g6 : Good c X.K m G H (fun C d H' => W C d τ H') (((outer t B src (wipeD σ w) (xs.drop (j + 1)) (j + 1) h5).bind fun l h2 => .ok ((part ++ []) ++ l) h2).bind fun l h => .ok (RV.lst (accD ++ l)) h) (fun rv m' G' H' => ∀ v, RR X.K H m' G' H' rv v → Q v H') := g5
                  rw [R.bind_assoc, List.append_nil] at g6
                  have e7 : (fun (l : List Cw.D) (h2 : Hh) => (R.ok (part ++ l) h2).bind fun l h => R.ok (RV.lst (accD ++ l)) h) = fun l h => R.ok (RV.lst ((accD ++ part) ++ l)) h := by
                    funext l h
                    show R.ok (RV.lst (accD ++ (part ++ l))) h = _
                    rw [List.append_assoc]
                  rw [e7] at g6
                  exact g6
              | some z0 =>
                have hlt1 : j1 < ys.length := (List.getElem?_eq_some_iff.mp hy1).1
                have ed1 : ys.drop j1 = z0 :: ys.drop (j1 + 1) := by
                  rw [List.drop_eq_getElem_cons hlt1, (List.getElem?_eq_some_iff.mp hy1).2]
                rw [ed1] at g5
                have e3 : inner t2 (ev (runB tb n) e) (wipeD σ1 w2) (z0 :: ys.drop (j1 + 1)) h5 = (match putT t2 z0 (wipeD σ1 w2) with
                  | none => R.stuck
                  | some σ2 => (ev (runB tb n) e σ2 h5).noX.bind fun v h1 => match v.toD with
                    | none => .stuck
                    | some d => (inner t2 (ev (runB tb n) e) (wipeD σ1 w2) (ys.drop (j1 + 1)) h1).bind fun l h2 => .ok (d :: l) h2) := rfl
                rw [e3] at g5
                cases hput2 : putT t2 z0 (wipeD σ1 w2) with
                | none => simp only [hput2] at g5; exact g5.elim
                | some σ2 =>
                  simp only [hput2] at g5
                  rw [R.noX_bind, R.noX_noX, R.bind_assoc] at g5
                  obtain ⟨i1, i2⟩ := (jw1 m5 G5 Hc).go m5 G5 Hc h5 j1 z0 z0 (.refl st5.sub2) r5 hy1 rfl
                  refine .inr ⟨i1, fun H' => Iw (j1 + 1) (ys.length - (j1 + 1)) H', fun H' iv => ⟨_, by omega, iv⟩, fun v6 H6 hy6 => ?_⟩
                  obtain ⟨G6, s56, r6, q6⟩ := i2 v6 H6 hy6
                  have s16 := st5.trans s56
                  have eD6 : H6 D = some (.lst accV') := s56.keepH D _ eD5 nD5
                  have gD6 : G6 D = none := s56.stillHid gD5 eD5
                  have l6 := l5.step r5 s56
                  have rs6' := rs5.step r5 s56
                  have rs6 : RS X.K m5 G6 (wipeD σ1 w2) (L2.wipe τ1 (w2.map (·.2))) := RS.wipe rs6' w2
                  intro u' U0' UC' ucl' ufp'
                  refine put_ok (X := Cx.inn X scope u' U0' UC' ucl' ufp') EN.calm EN.nd loc_blk s56.sub2 h6 hput2 rs6 q6 fun τ2 r2' len2 kp2 => ⟨?_, iT_nil ?_⟩
                  · rw [← wipe_wipe (t := τ1)]
                    exact wipe_same len2 fun j hj => kp2 j fun z => hj (h7 j z)
                  rw [if_pos rfl]
                  intro u'' U0'' UC'' ucl'' ufp''
                  refine he (Cx.inn X scope u'' U0'' UC'' ucl'' ufp'') _ x (relS scope X.env.scope) (EN.blk scope u'' U0'' UC'' ucl'' ufp'') rfl h8 m5 G6 H6 h5 σ2 τ2 _ r6 s56.sub2 r2' (Good.mono (Good.bindN (s01.trans s16) g5) fun rv m7 G7 H7 s67 ⟨h7', _, r7, s07, g7⟩ u q7 => ?_)
                  cases hd : rv.toD with
                  | none => simp only [hd] at g7; exact g7.elim
                  | some d =>
                    simp only [hd] at g7
                    obtain ⟨G8, s68, r8, q8, _⟩ := RR.toD s67 r7 q7 hd
                    have s18 := s16.trans s68
                    have eD8 : H7 D = some (.lst accV') := s68.keepH D _ eD6 nD5
                    have gD8 : G8 D = none := s68.stillHid gD6 eD6
                    have nD8 : D ∉ m7 := s68.out nD5 eD6
                    have l8 := l6.step r6 s68
                    refine ⟨accV', eD8, ?_, rfl, hlt1, m7, G8, h7', part ++ [d], accV' ++ [u], Stp.hidW s18 _ hD gD8, r8, upd_same, gD8, nD8, ?_, ?_, rs6'.step r6 s68, ?_⟩
                    · rw [← l8.length, List.length_append, sizeLine_eq]; omega
                    · rw [← List.append_assoc]
                      exact l8.app (.cons q8 .nil)
                    · rw [List.length_append]; exact Nat.succ_le_succ lp
                    · rw [R.noX_bind, R.bind_assoc] at g7
                      have e7 : (fun (l : List Cw.D) (h2 : Hh) => ((R.ok (d :: l) h2).noX).bind fun l h => F (part ++ l) h) = fun l h => F ((part ++ [d]) ++ l) h := by
                        funext l h
                        show F (part ++ d :: l) h = _
                        rw [List.append_assoc]; rfl
                      rw [e7] at g7
                      exact g7
            · unfold fewR at g2
              rw [if_neg ly] at g2
              exact g2.elim
theorem se_lc2 {e t i t2 : I} {es2 : List I} {w w2 : List (Str × Nat)} (he : SE ck c tb n e) (hi : SI ck c tb n i) (hs2 : SEs ck c tb n es2) : SE ck c tb n (.lc2 e t i t2 es2 w w2) := by
  intro X W x sc EN hsc hm m G H h σ τ Q r s rs g
  subst hsc
  obtain ⟨x, y, z, y2, p, xs, p2, scope, pos, rfl, k1, k2, k3, k4, k5, k6, k7, k8, k9⟩ := mE_lc2Inv hm
  have q := lc2_ok he hi hs2 EN k1 k2 k3 k4 k5 k6 k8 k9 r s rs g
  exact ⟨_, pe_lc2 (g := iG X scope y) (tt := iT X scope []) (wi1 := iI X scope y2 (.Call (.Name "range" p) xs [] p2)) (g1 := iG X scope y2) (tt1 := iT X scope []) (te := iE X scope x) EN.calm EN.nd piB (blkOk_by k1) (fun i hi => by
    obtain ⟨q, hq, rfl⟩ := List.mem_map.mp hi
    exact k7 q hq) pgI ptI piI pgI ptI peI (fun _ => fold_pure (mI_with k2)) (fun _ _ => fold_pure (mI_with k5)), q⟩
end
end Cw
end

section
set_option Elab.async false
set_option linter.all false
set_option maxRecDepth 100000
set_option maxHeartbeats 4000000
/-! Cw18b: dict displays, lists of ranges, reprs compared. -/
namespace Cw
open PySem PySem.Spec PyProof.Rows L2

/-! ### repr -/
mutual
theorem D.rp_ok : ∀ {d : D}, d.rp = true → d.p.showable = true ∧ d.p.leavesShort 13 = true ∧ d.p.hasDict = false
  | .non, _ => ⟨by simp only [D.p, PyData.showable], by simp only [D.p, PyData.leavesShort], by simp only [D.p, PyData.hasDict]⟩
  | .bl b, _ => ⟨by simp only [D.p, PyData.showable], by simp only [D.p, PyData.leavesShort], by simp only [D.p, PyData.hasDict]⟩
  | .int i, h => by
    have h : i.natAbs < 1000000000000 := of_decide_eq_true h
    have h2 : i.natAbs < 10 ^ 12 := by omega
    refine ⟨?_, ?_, by simp only [D.p, PyData.hasDict]⟩
    · simp only [D.p, PyData.showable, decide_eq_true_eq]
      by_cases h0 : i.natAbs = 0
      · rw [h0]; decide
      · have := Nat.log2_lt (n := i.natAbs) (k := 40) h0
        have h3 : i.natAbs < 2 ^ 40 := by omega
        have := this.mpr h3
        omega
    · simp only [D.p, PyData.leavesShort, decide_eq_true_eq]
      exact PyData.shown_int_le h2
  | .str x, h => ⟨by simp only [D.p, PyData.showable], by
      simp only [D.p, PyData.leavesShort]
      have e : (16 : Nat) ^ 8 = 4294967296 := by decide
      rw [e]; exact h, by simp only [D.p, PyData.hasDict]⟩
  | .tup xs, h => by
    obtain ⟨a, b, c⟩ := D.rps_ok (show D.rps xs = true from h)
    exact ⟨by simp only [D.p, PyData.showable]; exact a, by simp only [D.p, PyData.leavesShort]; exact b, by simp only [D.p, PyData.hasDict]; exact c⟩
  | .fl xs, h => by
    obtain ⟨a, b, c⟩ := D.rps_ok (show D.rps xs = true from h)
    exact ⟨by simp only [D.p, PyData.showable]; exact a, by simp only [D.p, PyData.leavesShort]; exact b, by simp only [D.p, PyData.hasDict]; exact c⟩
  | .sc xs, h => by
    obtain ⟨a, b, c⟩ := D.rps_ok (show D.rps xs = true from h)
    exact ⟨by simp only [D.p, PyData.showable]; exact a, by simp only [D.p, PyData.leavesShort]; exact b, by simp only [D.p, PyData.hasDict]; exact c⟩
  | .ref _, h => by cases h
theorem D.rps_ok : ∀ {d : List D}, D.rps d = true → PyData.showableAll (D.ps d) = true ∧ PyData.leavesShortAll 13 (D.ps d) = true ∧ PyData.hasDictAll (D.ps d) = false
  | [], _ => ⟨by simp only [D.ps, PyData.showableAll], by simp only [D.ps, PyData.leavesShortAll], by simp only [D.ps, PyData.hasDictAll]⟩
  | x :: xs, h => by
    obtain ⟨h1, h2⟩ := ba (show (D.rp x && D.rps xs) = true from h)
    obtain ⟨a, b, c⟩ := D.rp_ok h1
    obtain ⟨a2, b2, c2⟩ := D.rps_ok h2
    exact ⟨by simp only [D.ps, PyData.showableAll, a, a2]; rfl, by simp only [D.ps, PyData.leavesShortAll, b, b2]; rfl, by simp only [D.ps, PyData.hasDictAll, c, c2]; rfl⟩
end
section
variable {X : Cx} {pins : List (Addr × Obj)} {σ : L2.St} {H : Hp} {s : Shared}
mutual
theorem reads_of (I : Inv X pins σ H s) : ∀ {v : V} {d : PyData}, Dp X.K H v d → ∀ {u : Value}, RelV v u → ∃ as, Reads s.heap u d as
  | _, _, .non, u, r => by cases (show u = .none from r); exact ⟨_, .none⟩
  | _, _, .bl b, u, r => by cases (show u = .bool b from r); exact ⟨_, .bool b⟩
  | _, _, .int i, u, r => by obtain ⟨t, rfl⟩ := r; exact ⟨_, .int i t⟩
  | _, _, .str x, u, r => by obtain ⟨t, rfl⟩ := r; exact ⟨_, .str x t⟩
  | _, _, .lst q l, u, r => by
    cases (show u = .ref _ from r)
    obtain ⟨its, rv, p, _⟩ := I.list q
    obtain ⟨as, ra⟩ := readsAll_of I l rv
    obtain ⟨o, e, c, n, d⟩ := p.isList
    exact ⟨_, .list e c d (by simpa using ra)⟩
  | _, _, .tup q l, u, r => by
    cases (show u = .ref _ from r)
    obtain ⟨its, rv, p, _⟩ := I.tuple q
    obtain ⟨as, ra⟩ := readsAll_of I l rv
    have p : s.heap.IsTuple _ its.toArray := p
    obtain ⟨o, e, c, n, d⟩ := p
    exact ⟨_, .tuple e c d (by simpa using ra)⟩
theorem readsAll_of (I : Inv X pins σ H s) : ∀ {v : List V} {d : List PyData}, DpAll X.K H v d → ∀ {u : List Value}, Vals v u → ∃ as, ReadsAll s.heap u d as
  | _, _, .nil, _, .nil => ⟨_, .nil⟩
  | _, _, .cons q l, _, .cons r rr => by
    obtain ⟨a, h1⟩ := reads_of I q r
    obtain ⟨b, h2⟩ := readsAll_of I l rr
    exact ⟨_, .cons h1 h2⟩
end
end
/-- repr(x) of data -/
def rReprD (K : PySem.W.Frag) : List V → Hp → VK → Prop := fun xs H Q => ∃ v d, xs = [v] ∧ Dp K H v d ∧ d.showable = true ∧ d.leavesShort 13 = true ∧ d.hasDict = false ∧ d.weight ≤ 1048576 ∧ d.depth ≤ 60 ∧ Q (.str d.shown) H
theorem cr_reprD {X : Cx} (hu : X.A.units + 65 < cLine) (gd : X.A.guards = some []) : CallR X (.builtin "repr") (rReprD X.K) := by
  intro pins s σ H xs us Q I r h
  obtain ⟨v, d, rfl, q, h1, h2, h3, h4, h5, hq⟩ := h
  obtain ⟨u, rfl, ru⟩ := vals1 r
  have hz : d.shown.length ≤ sizeLine := PyData.shown_fits (B := 13) (by omega) (by omega) h2 (by omega)
  cases q with
  | non => cases (show u = .none from ru); exact PySem.P.repr_of_none ⟨.str _, H, I.tok _, ⟨_, rfl⟩, by rw [PyData.shown_none] at hq; exact hq⟩
  | bl b => cases (show u = .bool b from ru); exact PySem.P.repr_of_bool ⟨.str _, H, I.tok _, ⟨_, rfl⟩, by rw [PyData.shown_bool] at hq; cases b <;> exact hq⟩
  | int i =>
    obtain ⟨t, rfl⟩ := ru
    simp only [PyData.showable, decide_eq_true_eq] at h1
    exact PySem.P.repr_of_int h1 ⟨.str _, H, I.tok _, ⟨_, rfl⟩, by rw [PyData.shown_int] at hq; exact hq⟩
  | str x =>
    obtain ⟨t, rfl⟩ := ru
    rw [PyData.shown_str] at hq hz
    exact PySem.P.repr_of_str ⟨.str _, H, I.tok _, ⟨_, rfl⟩, hq⟩ hz
  | lst q l =>
    cases (show u = .ref _ from ru)
    obtain ⟨as, ra⟩ := reads_of I (.lst q l) (u := .ref _) rfl
    exact repr_of_reads' ra h1 (PyData.noDict_hsm h3) gd (by omega) (fun _ _ e => e) (fun h' w tk hk => ⟨.str _, H, I.kept (t' := tk) hk, ⟨_, rfl⟩, hq⟩) hz
  | tup q l =>
    cases (show u = .ref _ from ru)
    obtain ⟨as, ra⟩ := reads_of I (.tup q l) (u := .ref _) rfl
    exact repr_of_reads' ra h1 (PyData.noDict_hsm h3) gd (by omega) (fun _ _ e => e) (fun h' w tk hk => ⟨.str _, H, I.kept (t' := tk) hk, ⟨_, rfl⟩, hq⟩) hz

section
variable {K : PySem.W.Frag} {m : List Addr} {G H H0 : Hp} {h : Hh}
theorem RR.pd (s : Sub G H) (r : Rel K m h G) {x : RV} {v : V} {d : D} (q : RR K H0 m G H x v) (e : x.pd h = some d) : Dp K H v d.p := by
  have plain : ∀ y : D, (if y.pure then some y else none) = some d → (if y.pure then some y.p else none) = some d.p := fun y e => by
    obtain ⟨h1, h2⟩ := if_some e
    subst h2
    exact if_pos h1
  have lst : ∀ xs : List D, (if D.pures xs then some (D.fl xs) else none) = some d → (if D.pures xs then some (PyData.list (D.ps xs)) else none) = some d.p := fun xs e => by
    obtain ⟨h1, h2⟩ := if_some e
    subst h2
    exact if_pos h1
  have e2 : x.py h = some d.p := by
    cases x with
    | d y =>
      cases y with
      | ref n =>
        have e' : (match h[n]? with | some (.lst xs) => if D.pures xs then some (D.fl xs) else none | _ => none) = some d := e
        show (match h[n]? with | some (.lst xs) => if D.pures xs then some (PyData.list (D.ps xs)) else none | _ => none) = _
        cases z : h[n]? with
        | none => rw [z] at e'; cases e'
        | some o =>
          rw [z] at e'
          cases o with
          | dct _ => cases e'
          | lst xs => exact lst xs e'
      | non => exact plain .non e
      | bl b => exact plain (.bl b) e
      | int b => exact plain (.int b) e
      | str b => exact plain (.str b) e
      | tup b => exact plain (.tup b) e
      | fl b => exact plain (.fl b) e
      | sc b => exact plain (.sc b) e
    | lst xs => exact lst xs e
    | dct _ => cases e
  exact RR.py s r q e2
end
mutual
theorem D.beqA_eq : ∀ {a b : D}, D.beqA a b = true → a = b
  | .non, b, h => by cases b <;> first | rfl | cases h
  | .bl a, b, h => by
    cases b with
    | bl b => have e : (a == b) = true := h; rw [eq_of_beq e]
    | _ => cases h
  | .int a, b, h => by
    cases b with
    | int b => have e : a = b := of_decide_eq_true h; rw [e]
    | _ => cases h
  | .str a, b, h => by
    cases b with
    | str b => have e : a = b := of_decide_eq_true h; rw [e]
    | _ => cases h
  | .tup a, b, h => by
    cases b with
    | tup b => rw [D.beqsA_eq (show D.beqsA a b = true from h)]
    | _ => cases h
  | .fl a, b, h => by
    cases b with
    | fl b => rw [D.beqsA_eq (show D.beqsA a b = true from h)]
    | _ => cases h
  | .sc a, b, h => by
    cases b with
    | sc b => rw [D.beqsA_eq (show D.beqsA a b = true from h)]
    | _ => cases h
  | .ref a, b, h => by cases b <;> cases h
theorem D.beqsA_eq : ∀ {a b : List D}, D.beqsA a b = true → a = b
  | [], b, h => by cases b <;> first | rfl | cases h
  | x :: xs, b, h => by
    cases b with
    | nil => cases h
    | cons y ys =>
      obtain ⟨h1, h2⟩ := ba (show (D.beqA x y && D.beqsA xs ys) = true from h)
      rw [D.beqA_eq h1, D.beqsA_eq h2]
end
section
variable {ck : Ck} {c : Cs} {tb : Tb} {n : Nat}
theorem boot_repr2 : bootBuiltins ("repr" : Str) = some (.builtin "repr") := by decide +kernel
/-- repr(e) of data whose text is short -/
theorem repr_ok {a : I} (ha : SE ck c tb n a) {X : Cx} {W : WX} (EN : Env1 ck c tb n X W) {x : Expr} {p pos : Pos} (hm : mE ck X.N X.env.scope a x = true) (hb : bltn ck X.env.scope ("repr" : Str) = true) {m : List Addr} {G H : Hp} {h : Hh} {σ : Sg} {t : L2.St} {Q : VK} (r : Rel X.K m h G) (s : Sub G H) (rs : RS X.K m G σ t)
    (g : Good c X.K m G H (fun C d H' => W C d t H') (ev (runB tb n) a σ h) fun rv m' G' H' => ∃ h' d, Rel X.K m' h' G' ∧ Stp m G H m' G' H' ∧ rv.pd h' = some d ∧ rpOk d = true ∧ Q (.str d.p.shown) H') : bE X (.Call (.Name "repr" p) [x] [] pos) t H Q := by
  obtain ⟨k1, k2⟩ := isFree_of EN rfl hb
  refine ⟨_, pe_callB callB k1 k2 boot_repr2 paB (by decide) (by decide) (star_of (mE_plain a hm)) rfl, ?_⟩
  refine ⟨_, pa_cons peB pa_nil (star_of (mE_plain a hm)), ?_⟩
  refine ha X W x X.env.scope EN rfl hm m G H h σ t _ r s rs (Good.mono g fun rv m1 G1 H1 s1 ⟨h1, d, r1, _, e, ok, q⟩ v qv => ?_)
  obtain ⟨ok, ok3⟩ := ba (show ((d.rp && decide (d.p.weight ≤ 1048576)) && decide (d.p.depth ≤ 60)) = true from ok)
  obtain ⟨ok1, ok2⟩ := ba ok
  obtain ⟨a1, a2, a3⟩ := D.rp_ok ok1
  exact ⟨_, cr_reprD (by have := EN.units; omega) EN.gd, v, d.p, rfl, RR.pd s1.sub2 r1 qv e, a1, a2, a3, of_decide_eq_true ok2, of_decide_eq_true ok3, q⟩
theorem rcmp_inv {N : List Str} {sc : Scope} {k : Bool} {a b : I} {x : Expr} (h : mE ck N sc (.rcmp k a b) x = true) : ∃ p1 p2 q1 q2 u v pos, x = .Compare (.Call (.Name "repr" p1) [u] [] q1) [if k then CmpOp.NotEq else CmpOp.Eq] [.Call (.Name "repr" p2) [v] [] q2] pos ∧ bltn ck sc ("repr" : Str) = true ∧ mE ck N sc a u = true ∧ mE ck N sc b v = true := by
  cases x with
  | Compare l ps rs pos =>
    cases l with
    | Call f xs kw q1 =>
      cases f with
      | Name y p1 =>
        match xs, kw, ps, rs, h with
        | [u], [], [p], [r], h =>
          cases r with
          | Call f2 xs2 kw2 q2 =>
            cases f2 with
            | Name z p2 =>
              match xs2, kw2, h with
              | [v], [], h =>
                obtain ⟨h, h6⟩ := ba (show (((((decide (y = ("repr" : Str)) && decide (z = ("repr" : Str))) && bltn ck sc y) && decide (p = if k then CmpOp.NotEq else CmpOp.Eq)) && mE ck N sc a u) && mE ck N sc b v) = true from h)
                obtain ⟨h, h5⟩ := ba h
                obtain ⟨h, h4⟩ := ba h
                obtain ⟨h, h3⟩ := ba h
                obtain ⟨h1, h2⟩ := ba h
                have e1 : y = ("repr" : Str) := of_decide_eq_true h1
                have e2 : z = ("repr" : Str) := of_decide_eq_true h2
                have e4 : p = if k then CmpOp.NotEq else CmpOp.Eq := of_decide_eq_true h4
                subst e1 e2 e4
                exact ⟨_, _, _, _, _, _, _, rfl, h3, h5, h6⟩
              | [], _, h => exact Bool.noConfusion (show false = true from h)
              | [_], _ :: _, h => exact Bool.noConfusion (show false = true from h)
              | _ :: _ :: _, _, h => exact Bool.noConfusion (show false = true from h)
            | _ => exact Bool.noConfusion (show false = true from h)
          | _ => exact Bool.noConfusion (show false = true from h)
        | [], _, _, _, h => exact Bool.noConfusion (show false = true from h)
        | _ :: _ :: _, _, _, _, h => exact Bool.noConfusion (show false = true from h)
        | [_], _ :: _, _, _, h => exact Bool.noConfusion (show false = true from h)
        | [_], [], [], _, h => exact Bool.noConfusion (show false = true from h)
        | [_], [], _ :: _ :: _, _, h => exact Bool.noConfusion (show false = true from h)
        | [_], [], [_], [], h => exact Bool.noConfusion (show false = true from h)
        | [_], [], [_], r :: _ :: _, h =>
          cases r with
          | Call f2 xs2 kw2 q2 =>
            cases f2 with
            | Name z p2 =>
              match xs2, kw2, h with
              | [_], [], h => exact Bool.noConfusion (show false = true from h)
              | [], _, h => exact Bool.noConfusion (show false = true from h)
              | [_], _ :: _, h => exact Bool.noConfusion (show false = true from h)
              | _ :: _ :: _, _, h => exact Bool.noConfusion (show false = true from h)
            | _ => exact Bool.noConfusion (show false = true from h)
          | _ => exact Bool.noConfusion (show false = true from h)
      | _ => exact Bool.noConfusion (show false = true from h)
    | _ => exact Bool.noConfusion (show false = true from h)
  | _ => exact Bool.noConfusion (show false = true from h)
/-- both reprs, one behind the other -/
theorem rcmp_go {k : Bool} {a b : I} (ha : SE ck c tb n a) (hb : SE ck c tb n b) {X : Cx} {W : WX} (EN : Env1 ck c tb n X W) {u v : Expr} {p1 p2 q1 q2 : Pos} (hr : bltn ck X.env.scope ("repr" : Str) = true) (h1 : mE ck X.N X.env.scope a u = true) (h2 : mE ck X.N X.env.scope b v = true)
    {m : List Addr} {G H : Hp} {h : Hh} {σ : Sg} {t : L2.St} {R : Hp → Prop} (r : Rel X.K m h G) (s : Sub G H) (rs : RS X.K m G σ t)
    (g : Good c X.K m G H (fun C d H' => W C d t H') (ev (runB tb n) (.rcmp k a b) σ h) fun rv m' G' H' => rv = .d (.bl (!k)) → R H') :
    bE X (.Call (.Name "repr" p1) [u] [] q1) t H fun x H1 => bE X (.Call (.Name "repr" p2) [v] [] q2) t H1 fun y H2 => ∃ z, x = .str z ∧ y = .str z ∧ R H2 := by
  have g0 : Good c X.K m G H (fun C d H' => W C d t H') ((ev (runB tb n) a σ h).bind fun x h => match x.pd h with
    | none => Cw.R.stuck
    | some p => if rpOk p then (ev (runB tb n) b σ h).bind fun y h => (match y.pd h with
      | none => .stuck
      | some q => if D.beqA p q then .ok (RV.d (.bl (!k))) h else .stuck) else .stuck) _ := g
  refine repr_ok ha EN h1 hr r s rs (Good.mono (Good.bind s g0) fun rv m1 G1 H1 s1 ⟨h', _, r1, s01, g1⟩ => ?_)
  cases e1 : rv.pd h' with
  | none => simp only [e1] at g1; exact g1.elim
  | some d =>
    simp only [e1] at g1
    by_cases ok : rpOk d = true
    · rw [if_pos ok] at g1
      refine ⟨h', d, r1, s1, e1, ok, ?_⟩
      refine repr_ok hb EN h2 hr r1 s1.sub2 (rs.step r s1) (Good.mono (Good.bindL s1 g1) fun rw' m2 G2 H2 s2 ⟨h'', _, r2, s02, g2⟩ => ?_)
      cases e2 : rw'.pd h'' with
      | none => simp only [e2] at g2; exact g2.elim
      | some d2 =>
        simp only [e2] at g2
        by_cases eq : D.beqA d d2 = true
        · rw [if_pos eq] at g2
          have e := D.beqA_eq eq
          subst e
          exact ⟨h'', d, r2, s2, e2, ok, _, rfl, rfl, g2 m2 G2 H2 s02 r2 rfl⟩
        · rw [if_neg eq] at g2; exact g2.elim
    · rw [if_neg ok] at g1; exact g1.elim
def rSame (k : Bool) : R2 := fun x y H Q => ∃ z, x = .str z ∧ y = .str z ∧ Q (.bl (!k)) H
theorem op_same {X : Cx} (k : Bool) : OpR X (compareOp (if k then CmpOp.NotEq else CmpOp.Eq)) (rSame k) := by
  intro pins s σ H x y v u Q I rx ry h
  obtain ⟨z, rfl, rfl, q⟩ := h
  cases k with
  | true => exact op_ne pins s σ H _ _ v u Q I rx ry ⟨rfl, by rw [decide_eq_true rfl]; exact q⟩
  | false => exact op_eq pins s σ H _ _ v u Q I rx ry ⟨rfl, by rw [decide_eq_true rfl]; exact q⟩
theorem nomk {k : Bool} {f : Expr} {xs : List Expr} {kw : List Keyword} {q : Pos} : behindInMarks (if k then CmpOp.NotEq else CmpOp.Eq) (.Call f xs kw q) = false := by cases k <;> rfl
theorem se_rcmp {k : Bool} {a b : I} (ha : SE ck c tb n a) (hb : SE ck c tb n b) : SE ck c tb n (.rcmp k a b) := by
  intro X W x sc EN hsc hm m G H h σ t Q r s rs g
  subst hsc
  obtain ⟨p1, p2, q1, q2, u, v, pos, rfl, hr, h1, h2⟩ := rcmp_inv hm
  refine ⟨_, pe_cmpR (op_same k) peB peB nomk, ?_⟩
  exact rcmp_go (R := fun H' => Q (.bl (!k)) H') ha hb EN hr h1 h2 r s rs (Good.mono g fun rv m' G' H' _ q e => by subst e; exact q _ (.bl _))
theorem st_rcmp {k : Bool} {a b : I} (ha : SE ck c tb n a) (hb : SE ck c tb n b) : ST ck c tb n (.rcmp k a b) := by
  intro X W x sc EN hsc hm m G H h σ t Q r s rs g
  subst hsc
  obtain ⟨p1, p2, q1, q2, u, v, pos, rfl, hr, h1, h2⟩ := rcmp_inv hm
  refine ⟨_, pt_cmpR (op_same k) peB peB nomk, ?_⟩
  exact rcmp_go (R := fun H' => ∃ k', V.bl (!k) = .bl k' ∧ Q k' H') ha hb EN hr h1 h2 r s rs (Good.mono g fun rv m' G' H' _ ⟨b, e, q⟩ e2 => by
    rw [e2] at e; cases e; exact ⟨_, rfl, q⟩)

/-! ### list(range(..)), tuple(range(..)) -/
def bRg (X : Cx) (e : Expr) : L2.St → Hp → (Int → Int → Hp → Prop) → Prop := fun σ H Q => ∃ t, PRg X e t ∧ t σ H Q
theorem prgB {X : Cx} {e : Expr} : PRg X e (bRg X e) := fun pins s σ H Q I ⟨t, h, q⟩ => h pins s σ H Q I q
theorem prg_A {X : Cx} {a : Expr} {es : List Expr} {ta : TA} {p pos : Pos} (hg : Gl X "range") (hm : X.mg "range" = none) (ha : PA X (a :: es) ta) (hs : starEach (a :: es) X.env = (false, eval a X.env) :: starEach es X.env) (hpl : (backTo pos (starEach es X.env)).any (·.1) = false) :
    PRg X (.Call (.Name "range" p) (a :: es) [] pos) (fun σ H Q => ta σ H fun vs H1 => (∃ n, vs = [.int n] ∧ Q 0 n H1) ∨ ∃ i j, vs = [.int i, .int j] ∧ Q i j H1) := by
  intro pins s σ H Q I h
  refine Call_ (ld_blt I hg hm boot_range (PyProof.Rows.callWith_type1 (thn (ha.run pos pins s σ H _ I h) fun us s1 ⟨vs, H1, I1, r1, q1⟩ => ?_) hs hpl))
  rcases q1 with ⟨n, rfl, q⟩ | ⟨i, j, rfl, q⟩
  · obtain ⟨u, rfl, t, rfl⟩ := vals1 r1
    exact call_range_1 ⟨_, 0, n, _, _, _, H1, rfl, IsRange.new _ _ _ _ _ _ _, I1.kept fun b u e => Heap.get?_push_of_some _ e, q⟩
  · cases r1 with
    | cons r rr =>
      cases rr with
      | cons r' rr =>
        cases rr
        obtain ⟨t, rfl⟩ := r
        obtain ⟨t', rfl⟩ := r'
        exact call_range_2 ⟨_, i, j, _, _, _, H1, rfl, IsRange.new _ _ _ _ _ _ _, I1.kept fun b u e => Heap.get?_push_of_some _ e, q⟩
theorem vals_step {a c : Int} {n : Nat} {acc : Array Value} (h : ItemsOf (fun i v => ∃ t, v = .int (a + i * c) t) acc n) : Vals ((List.range n).map fun (i : Nat) => V.int (a + (i : Nat) * c)) acc.toList := by
  obtain ⟨h1, h2⟩ := h
  subst h1
  rw [← Array.length_toList]
  refine vals_of_get acc.toList _ fun j u hj => ?_
  obtain ⟨t, e⟩ := h2 j u (by rw [← hj, Array.getElem?_toList])
  exact ⟨t, e⟩
theorem pe_listStep {X : Cx} {a : Expr} {es : List Expr} {ta : TA} {p pos p2 pos2 : Pos} (hc : X.calm = true) (hgl : Gl X "list") (hml : X.mg "list" = none) (hg : Gl X "range") (hm : X.mg "range" = none) (ha : PA X (a :: es) ta) (hs : starEach (a :: es) X.env = (false, eval a X.env) :: starEach es X.env) (hpl : (backTo pos2 (starEach es X.env)).any (·.1) = false) :
    PE X (.Call (.Name "list" p) [.Call (.Name "range" p2) (a :: es) [] pos2] [] pos) (fun σ H Q => ta σ H fun vs H1 => ∃ (i j d : Int) (n : Nat), vs = [.int i, .int j, .int d] ∧ RgC i j d n ∧ n ≤ 16777216 ∧ ∀ q, H1 q = none → Q (.ref q) (upd H1 q (.lst ((List.range n).map fun (k : Nat) => V.int (i + (k : Nat) * d))))) := by
  refine ⟨fun pins s σ H Q I h => ?_⟩
  have mk : wpAny (model X.prog X.w) X.A (eval (.Call (.Name "range" p2) (a :: es) [] pos2) X.env) (fun x s' => ∃ r i j d n t u v H1, x = .ref r ∧ IsRange s'.heap r i j d t u v ∧ L2.Inv X pins σ H1 s' ∧ RgC i j d n ∧ n ≤ 16777216 ∧ ∀ q, H1 q = none → Q (.ref q) (upd H1 q (.lst ((List.range n).map fun (k : Nat) => V.int (i + (k : Nat) * d))))) X.xe s := by
    refine Call_ (ld_blt I hg hm boot_range (PyProof.Rows.callWith_type1 (thn (ha.run pos2 pins s σ H _ I h) fun us s1 ⟨vs, H1, I1, r1, q1⟩ => ?_) hs hpl))
    obtain ⟨i, j, d, n, e, ok, le, q⟩ := q1
    subst e
    cases r1 with
    | cons r rr =>
      cases rr with
      | cons r' rr =>
        cases rr with
        | cons r'' rr =>
          cases rr
          obtain ⟨t, rfl⟩ := r
          obtain ⟨t', rfl⟩ := r'
          obtain ⟨t'', rfl⟩ := r''
          refine call_range_3 ok.1 ?_ (.inl (PyProof.noPylong_small ok.2.1))
          exact ⟨_, i, j, d, n, _, _, _, H1, rfl, IsRange.new _ _ _ _ _ _ _, I1.kept (t' := s1.toks) fun b o e => Heap.get?_push_of_some _ e, ok, le, q⟩
  refine Call_ (ld_blt I hgl hml boot_list (PyProof.Rows.callWith_type1 (args_cons (thn mk fun x s1 ⟨r, i, j, d, n, t, u, v, H1, ex, hr, I1, ok, le, q⟩ => args_nil ?_) rfl) rfl))
  subst ex
  refine call_list_range (n := n) (I1.ok.hd hc) hr ok.2.2.1 ok.2.2.2 (by omega) fun h' tk acc c' hk e' hi => ?_
  refine ⟨.ref s1.heap.objs.size, upd H1 s1.heap.objs.size (.lst ((List.range n).map fun (k : Nat) => V.int (i + (k : Nat) * d))), I1.laid hk (Nat.le_refl _) (show ObjOk X.prog X.w _ _ _ (.lst _) from ⟨?_, acc.toList, c', vals_step hi, ?_⟩), rfl, q _ (I1.hok.fresh (Nat.le_refl _))⟩
  · rw [List.length_map, List.length_range, sizeLine_eq]; omega
  · rw [Array.toArray_toList]; exact e'
theorem se_lrg {k : Bool} {es : List I} (he : SEs ck c tb n es) : SE ck c tb n (.lrg k es) := by
  intro X W x sc EN hsc hm m G H h σ t Q r s rs g
  subst hsc
  cases x with
  | Call f xs kw pos =>
    cases f with
    | Name y p =>
      match xs, kw, hm with
      | [u], [], hm =>
        cases u with
        | Call f2 xs2 kw2 pos2 =>
          cases f2 with
          | Name z p2 =>
            cases kw2 with
            | cons _ _ => exact Bool.noConfusion (show false = true from hm)
            | nil =>
              obtain ⟨hm, h7⟩ := ba (show ((((((decide (y = if k then ("tuple" : Str) else ("list" : Str)) && bltn ck X.env.scope y) && decide (z = ("range" : Str))) && bltn ck X.env.scope z) && !xs2.isEmpty) && (decide (xs2.length ≤ 2) || (!k && decide (xs2.length = 3)))) && mEs ck X.N X.env.scope es xs2) = true from hm)
              obtain ⟨hm, h6⟩ := ba hm
              obtain ⟨hm, h5⟩ := ba hm
              obtain ⟨hm, h4⟩ := ba hm
              obtain ⟨hm, h3⟩ := ba hm
              obtain ⟨h1, h2⟩ := ba hm
              have ez : z = ("range" : Str) := of_decide_eq_true h3
              have ey : y = if k then ("tuple" : Str) else ("list" : Str) := of_decide_eq_true h1
              subst ez ey
              obtain ⟨k1, k2⟩ := isFree_of EN rfl h2
              obtain ⟨k3, k4⟩ := isFree_of EN rfl h4
              cases xs2 with
              | nil => cases h5
              | cons a xs2 =>
                have hst := plain_star (env := X.env) h7
                have hs1 : starEach (a :: xs2) X.env = (false, eval a X.env) :: starEach xs2 X.env := by
                  cases es with
                  | nil => cases h7
                  | cons ea es => exact star_of (mE_plain ea (ba (show (mE ck X.N X.env.scope ea a && mEs ck X.N X.env.scope es xs2) = true from h7)).1)
                have hpl : (backTo pos2 (starEach xs2 X.env)).any (·.1) = false := by
                  rw [backTo_any]
                  rw [hs1] at hst
                  simpa using hst
                have g0 : Good c X.K m G H (fun C d H' => W C d t H') ((evs (runB tb n) es σ h).bind fun ds h => R.ofO ((rngOp ds).map fun xs => if k then RV.d (.tup xs) else .lst xs) h) (fun rv m' G' H' => ∀ v, RR X.K H m' G' H' rv v → Q v H') := g
                have len := mEs_len h7
                rcases Bool.or_eq_true_iff.mp h6 with h6 | h6
                rotate_left
                · obtain ⟨h6, h6'⟩ := ba h6
                  have h6' := of_decide_eq_true h6'
                  cases k with
                  | true => cases h6
                  | false =>
                    refine ⟨_, pe_listStep EN.calm k1 k2 k3 k4 paB hs1 hpl, ?_⟩
                    refine he X W (a :: xs2) X.env.scope EN rfl h7 m G H h σ t _ r s rs (Good.mono (Good.bind s g0) fun ds m1 G1 H1 s1 ⟨h1, e1, r1, s01, g1⟩ vs l => ?_)
                    obtain ⟨rv, e2, g2⟩ := Good.ofO g1
                    obtain ⟨ys, e3, rfl⟩ := map_some e2
                    have dl : ds.length = 3 := by rw [evs_len e1, len, h6']
                    obtain ⟨i, j, d, rfl, hb, rfl⟩ := rng3_inv dl e3
                    refine ⟨i, j, d, _, ints3 l, ⟨hb.1, hb.2.1, hb.2.2.1, hb.2.2.2.1⟩, hb.2.2.2.2, fun q nq => ?_⟩
                    have g3 : Then X m G H h1 (.lst ((List.range (Builtin.Range.rangeSize i j d).toNat).map fun (q : Nat) => D.int (i + q * d))) Q := g2
                    have s2 := s01.trans (Stp.newH s01.sub2 r1 nq (.lst ((List.range (Builtin.Range.rangeSize i j d).toNat).map fun (q : Nat) => V.int (i + q * d))))
                    refine g3 m1 G1 _ s2 r1 _ ⟨q, (List.range (Builtin.Range.rangeSize i j d).toNat).map fun (q : Nat) => V.int (i + q * d), rfl, upd_same, s01.sub2.no nq, Rel.outNew s01.sub2 r1 nq, s01.noBefore nq, ?_⟩
                    generalize List.range (Builtin.Range.rangeSize i j d).toNat = l
                    clear g3 s2
                    induction l with
                    | nil => exact .nil
                    | cons q l ih => exact .cons (.int _) ih
                have h6 : (a :: xs2).length ≤ 2 := of_decide_eq_true h6
                have body : ∀ R : Int → Int → Hp → Prop, (∀ (i j : Int) (m1 : List Addr) (G1 H1 : Hp) (h1 : Hh), RgOk i j → Stp m G H m1 G1 H1 → Rel X.K m1 h1 G1 →
                    (∀ m' G' H', Stp m G H m' G' H' → Rel X.K m' h1 G' → ∀ v, RR X.K H m' G' H' (if k then RV.d (.tup ((List.range (j - i).toNat).map fun (q : Nat) => D.int (i + q))) else .lst ((List.range (j - i).toNat).map fun (q : Nat) => D.int (i + q))) v → Q v H') → R i j H1) →
                    bA X (a :: xs2) t H fun vs H1 => (∃ n, vs = [.int n] ∧ R 0 n H1) ∨ ∃ i j, vs = [.int i, .int j] ∧ R i j H1 := fun R hR => by
                  refine he X W (a :: xs2) X.env.scope EN rfl h7 m G H h σ t _ r s rs (Good.mono (Good.bind s g0) fun ds m1 G1 H1 s1 ⟨h1, e1, r1, s01, g1⟩ vs l => ?_)
                  obtain ⟨rv, e2, g2⟩ := Good.ofO g1
                  obtain ⟨ys, e3, rfl⟩ := map_some e2
                  have dl : ds.length = (a :: xs2).length := by rw [evs_len e1, len]
                  match xs2, h6 with
                  | [], _ =>
                    obtain ⟨j, rfl, hb, rfl⟩ := rng1_inv dl e3
                    have e : (j - 0).toNat = j.toNat := by rw [Int.sub_zero]
                    exact .inl ⟨j, ints1 l, hR 0 j m1 G1 H1 h1 (by unfold RgOk; omega) s01 r1 (by rw [e]; exact g2)⟩
                  | [b], _ =>
                    obtain ⟨i, j, rfl, hb, rfl⟩ := rng2_inv dl e3
                    exact .inr ⟨i, j, ints2 l, hR i j m1 G1 H1 h1 (by unfold RgOk; omega) s01 r1 g2⟩
                  | _ :: _ :: _, h6 => exact absurd h6 (by simp)
                have rr : ∀ (K : PySem.W.Frag) (m : List Addr) (G : Hp) (i : Int) (n : Nat), RDs K m G ((List.range n).map fun (q : Nat) => D.int (i + q)) ((List.range n).map fun (q : Nat) => V.int (i + q)) := fun K m G i n => by
                  generalize List.range n = l
                  induction l with
                  | nil => exact .nil
                  | cons q l ih => exact .cons (.int _) ih
                cases k with
                | false =>
                  refine ⟨_, pe_listRg EN.calm k1 k2 (prg_A k3 k4 paB hs1 hpl), body (fun i j H1 => RgOk i j ∧ ∀ q, H1 q = none → Q (.ref q) (upd H1 q (.lst (rgV i j)))) fun i j m1 G1 H1 h1 ok s1 r1 g2 => ⟨ok, fun q hq => ?_⟩⟩
                  have g3 : Then X m G H h1 (.lst ((List.range (j - i).toNat).map fun (q : Nat) => D.int (i + q))) Q := g2
                  have s2 := s1.trans (Stp.newH s1.sub2 r1 hq (.lst (rgV i j)))
                  exact g3 m1 G1 _ s2 r1 _ ⟨q, rgV i j, rfl, upd_same, s1.sub2.no hq, Rel.outNew s1.sub2 r1 hq, s1.noBefore hq, rr _ _ _ _ _⟩
                | true =>
                  refine ⟨_, pe_tupRg EN.calm k1 k2 (prg_A k3 k4 paB hs1 hpl), body (fun i j H1 => RgOk i j ∧ ∀ q, H1 q = none → Q (.ref q) (upd H1 q (.tup (rgV i j)))) fun i j m1 G1 H1 h1 ok s1 r1 g2 => ⟨ok, fun q hq => ?_⟩⟩
                  have g3 : Then X m G H h1 (.d (.tup ((List.range (j - i).toNat).map fun (q : Nat) => D.int (i + q)))) Q := g2
                  have s2 := s1.trans (Stp.new1 s1.sub2 r1 hq (.tup (rgV i j)))
                  exact g3 m1 _ _ s2 (r1.new1 s1.sub2 hq _) _ (.tup (SqT.of upd_same) (rr _ _ _ _ _))
          | _ => exact Bool.noConfusion (show false = true from hm)
        | _ => exact Bool.noConfusion (show false = true from hm)
      | [], _, hm => exact Bool.noConfusion (show false = true from hm)
      | [u], _ :: _, hm =>
        cases u with
        | Call f2 _ kw2 _ =>
          cases f2 with
          | Name _ _ => cases kw2 <;> exact Bool.noConfusion (show false = true from hm)
          | _ => exact Bool.noConfusion (show false = true from hm)
        | _ => exact Bool.noConfusion (show false = true from hm)
      | u :: _ :: _, _, hm =>
        cases u with
        | Call f2 _ kw2 _ =>
          cases f2 with
          | Name _ _ => cases kw2 <;> exact Bool.noConfusion (show false = true from hm)
          | _ => exact Bool.noConfusion (show false = true from hm)
        | _ => exact Bool.noConfusion (show false = true from hm)
    | _ => exact Bool.noConfusion (show false = true from hm)
  | _ => exact Bool.noConfusion (show false = true from hm)

/-! ### dict displays -/
theorem RKs.setK {K : PySem.W.Frag} {m : List Addr} {G : Hp} {x : D} {y : V} {k : Key} (q : RD K m G x y) {d : List (Key × D)} {v : List (Key × V)} (l : RKs K m G d v) : RKs K m G (Cw.setK d k x) (putK v k y) := by
  have mp : ∀ {d : List (Key × D)} {v : List (Key × V)}, RKs K m G d v → RKs K m G (d.map fun kv => if kv.1 = k then (kv.1, x) else kv) (v.map fun kv => if kv.1 = k then (kv.1, y) else kv) := fun l => by
    induction l with
    | nil => exact .nil
    | @cons k' d' v' ds vs p l ih =>
      rw [List.map_cons, List.map_cons]
      by_cases hk : k' = k
      · rw [if_pos hk, if_pos hk]; exact .cons q ih
      · rw [if_neg hk, if_neg hk]; exact .cons p ih
  unfold Cw.setK putK
  rw [l.any k]
  by_cases hb : (v.any fun kv => decide (kv.1 = k)) = true
  · rw [if_pos hb]
    simp only [hb]
    exact mp l
  · rw [if_neg hb]
    simp only [hb]
    exact l.app (.cons q .nil)
theorem RKs.merge {K : PySem.W.Frag} {m : List Addr} {G : Hp} : ∀ {more : List (Key × D)} {mv : List (Key × V)}, RKs K m G more mv → ∀ {d : List (Key × D)} {v : List (Key × V)}, RKs K m G d v → RKs K m G (more.foldl (fun acc kv => Cw.setK acc kv.1 kv.2) d) (mv.foldl (fun acc kv => putK acc kv.1 kv.2) v) := by
  intro more mv q
  induction q with
  | nil => exact fun l => l
  | cons p _ ih => exact fun l => ih (RKs.setK p l)
def flatP : List (V × V) → List V
  | [] => []
  | (a, b) :: r => a :: b :: flatP r
theorem pairK_ok {K : PySem.W.Frag} {m : List Addr} {G : Hp} : ∀ {ds : List D} {kvs : List (Key × D)} {ps : List (V × V)}, pairK ds = some kvs → RDs K m G ds (flatP ps) → (∃ ws : List (Key × V), ps = ws.map (fun kv => (kV kv.1, kv.2)) ∧ RKs K m G kvs ws) ∧ ds.length = 2 * kvs.length
  | [], kvs, ps, e, l => by
    cases e
    cases ps with
    | nil => exact ⟨⟨[], rfl, .nil⟩, rfl⟩
    | cons p ps => obtain ⟨a, b⟩ := p; cases l
  | [_], _, _, e, _ => by cases e
  | k :: v :: r, kvs, ps, e, l => by
    have e : (match keyOf k, pairK r with
      | some k, some l => some ((k, v) :: l)
      | _, _ => none) = some kvs := e
    cases e1 : keyOf k with
    | none => rw [e1] at e; cases e
    | some kk =>
      cases e2 : pairK r with
      | none => rw [e1, e2] at e; cases e
      | some l2 =>
        rw [e1, e2] at e
        cases e
        cases ps with
        | nil => cases l
        | cons p ps =>
          obtain ⟨a, b⟩ := p
          cases l with
          | cons q1 l =>
            cases l with
            | cons q2 l =>
              obtain ⟨⟨ws, e3, e4⟩, e5⟩ := pairK_ok e2 l
              have := keyOf_rd q1 e1
              subst this
              exact ⟨⟨(kk, b) :: ws, by rw [e3]; rfl, .cons q2 e4⟩, by rw [List.length_cons, List.length_cons, e5, List.length_cons]; omega⟩
def bPr (X : Cx) : List (Option Expr) → List Expr → List (TE × TE)
  | some k :: ks, v :: vs => (bE X k, bE X v) :: bPr X ks vs
  | _, _ => []
theorem ppsB {X : Cx} {pos : Pos} {N : List Str} {sc : Scope} : ∀ {es : List I} {ks : List (Option Expr)} {vs : List Expr}, mDs ck N sc es ks vs = true → PPs X pos ks vs (bPr X ks vs) ∧ ks.all (·.isSome) = true ∧ es.length = 2 * ks.length
  | [], [], [], _ => ⟨pps_nil, rfl, rfl⟩
  | k :: e :: es, some x :: ks, y :: ys, h => by
    obtain ⟨_, h3⟩ := ba (show ((mE ck N sc k x && mE ck N sc e y) && mDs ck N sc es ks ys) = true from h)
    obtain ⟨a, b, d⟩ := ppsB (X := X) (pos := pos) h3
    exact ⟨pps_cons peB peB a, b, by rw [List.length_cons, List.length_cons, List.length_cons, d]; omega⟩
  | [], [], _ :: _, h => by cases h
  | [], _ :: _, [], h => by cases h
  | [], _ :: _, _ :: _, h => by cases h
  | [_], [], [], h => by cases h
  | [_], [], _ :: _, h => by cases h
  | [_], some _ :: _, [], h => by cases h
  | [_], none :: _, [], h => by cases h
  | [_], some _ :: _, _ :: _, h => by cases h
  | [_], none :: _, _ :: _, h => by cases h
  | _ :: _ :: _, [], [], h => by cases h
  | _ :: _ :: _, [], _ :: _, h => by cases h
  | _ :: _ :: _, some _ :: _, [], h => by cases h
  | _ :: _ :: _, none :: _, [], h => by cases h
  | _ :: _ :: _, none :: _, _ :: _, h => by cases h
def SAll (ck : Ck) (c : Cs) (tb : Tb) (n : Nat) (es : List I) : Prop := ∀ e, e ∈ es → SE ck c tb n e
theorem sds {X : Cx} {W : WX} (EN : Env1 ck c tb n X W) : ∀ {es : List I} {ks : List (Option Expr)} {vs : List Expr}, SAll ck c tb n es → mDs ck X.N X.env.scope es ks vs = true → ∀ {m : List Addr} {G H : Hp} {h : Hh} {σ : Sg} {t : L2.St} {Q : List (V × V) → Hp → Prop}, Rel X.K m h G → Sub G H → RS X.K m G σ t →
    Good c X.K m G H (fun C d H' => W C d t H') (evs (runB tb n) es σ h) (fun ds m' G' H' => ∀ ps, RDs X.K m' G' ds (flatP ps) → Q ps H') → tPairs (bPr X ks vs) t H Q
  | [], [], [], _, _, m, G, H, h, σ, t, Q, r, s, rs, g => g m G H (.refl s) r [] .nil
  | k :: e :: es, some x :: ks, y :: ys, A, hm, m, G, H, h, σ, t, Q, r, s, rs, g => by
    obtain ⟨h12, h3⟩ := ba (show ((mE ck X.N X.env.scope k x && mE ck X.N X.env.scope e y) && mDs ck X.N X.env.scope es ks ys) = true from hm)
    obtain ⟨h1, h2⟩ := ba h12
    refine A k List.mem_cons_self X W x X.env.scope EN rfl h1 m G H h σ t _ r s rs (Good.mono (Good.bind s g) fun rv m1 G1 H1 s1 ⟨h', _, r1, _, g1⟩ v q => ?_)
    cases hd : rv.toD with
    | none => rw [hd] at g1; exact g1.elim
    | some d =>
      rw [hd] at g1
      obtain ⟨G2, s2, r2, q2, _⟩ := RR.toD s1 r1 q hd
      have g2 : Good c X.K m G H (fun C d H' => W C d t H') (((ev (runB tb n) e σ h').bind fun x h => match x.toD with
        | none => Cw.R.stuck
        | some d => (evs (runB tb n) es σ h).bind fun ds h => .ok (d :: ds) h).bind fun ds h => .ok (d :: ds) h) (fun ds m' G' H' => ∀ ps, RDs X.K m' G' ds (flatP ps) → Q ps H') := g1
      rw [R.bind_assoc] at g2
      refine A e (List.mem_cons_of_mem _ List.mem_cons_self) X W y X.env.scope EN rfl h2 m1 G2 H1 h' σ t _ r2 s2.sub2 (rs.step r s2) (Good.mono (Good.bindL s2 g2) fun rw' m3 G3 H3 s3 ⟨h'', _, r3, s03, g3⟩ w qw => ?_)
      cases hd2 : rw'.toD with
      | none => simp only [hd2] at g3; exact g3.elim
      | some d2 =>
        simp only [hd2] at g3
        obtain ⟨G4, s4, r4, q4, _⟩ := RR.toD s3 r3 qw hd2
        rw [R.bind_assoc] at g3
        have s04 := s2.trans s4
        refine sds EN (fun e he => A e (List.mem_cons_of_mem _ (List.mem_cons_of_mem _ he))) h3 r4 s4.sub2 (rs.step r s04) (Good.mono (Good.bindL s04 g3) fun ds m5 G5 H5 s5 ⟨h5, _, r5, s05, g5⟩ ps l => ?_)
        exact g5 m5 G5 H5 s05 r5 ((v, w) :: ps) (.cons (q2.step r2 (s4.trans s5)) (.cons (q4.step r4 s5) l))
  | [], [], _ :: _, _, h, _, _, _, _, _, _, _, _, _, _, _ => by cases h
  | [], _ :: _, [], _, h, _, _, _, _, _, _, _, _, _, _, _ => by cases h
  | [], _ :: _, _ :: _, _, h, _, _, _, _, _, _, _, _, _, _, _ => by cases h
  | [_], [], [], _, h, _, _, _, _, _, _, _, _, _, _, _ => by cases h
  | [_], [], _ :: _, _, h, _, _, _, _, _, _, _, _, _, _, _ => by cases h
  | [_], some _ :: _, [], _, h, _, _, _, _, _, _, _, _, _, _, _ => by cases h
  | [_], none :: _, [], _, h, _, _, _, _, _, _, _, _, _, _, _ => by cases h
  | [_], some _ :: _, _ :: _, _, h, _, _, _, _, _, _, _, _, _, _, _ => by cases h
  | [_], none :: _, _ :: _, _, h, _, _, _, _, _, _, _, _, _, _, _ => by cases h
  | _ :: _ :: _, [], [], _, h, _, _, _, _, _, _, _, _, _, _, _ => by cases h
  | _ :: _ :: _, [], _ :: _, _, h, _, _, _, _, _, _, _, _, _, _, _ => by cases h
  | _ :: _ :: _, some _ :: _, [], _, h, _, _, _, _, _, _, _, _, _, _, _ => by cases h
  | _ :: _ :: _, none :: _, [], _, h, _, _, _, _, _, _, _, _, _, _, _ => by cases h
  | _ :: _ :: _, none :: _, _ :: _, _, h, _, _, _, _, _, _, _, _, _, _, _ => by cases h
theorem se_dct {es : List I} (A : SAll ck c tb n es) : SE ck c tb n (.dct es) := by
  intro X W x sc EN hsc hm m G H h σ t Q r s rs g
  subst hsc
  cases x with
  | Dict ks vs pos =>
    obtain ⟨hm, h4⟩ := ba (show (((decide (ks.length = vs.length) && !ks.isEmpty) && decide (ks.length ≤ 15)) && mDs ck X.N X.env.scope es ks vs) = true from hm)
    obtain ⟨hm, h3⟩ := ba hm
    obtain ⟨h1, h2⟩ := ba hm
    have h3 : ks.length ≤ 15 := of_decide_eq_true h3
    obtain ⟨pp, ha, hl⟩ := ppsB (X := X) (pos := pos) h4
    refine ⟨_, pe_disp pp ha (of_decide_eq_true h1) (by intro z; subst z; cases h2) h3, fun p hp => ?_⟩
    have g0 : Good c X.K m G H (fun C d H' => W C d t H') ((evs (runB tb n) es σ h).bind fun ds h => match pairK ds with
      | some kvs => .ok (RV.dct (mergeD kvs)) h
      | none => .stuck) (fun rv m' G' H' => ∀ v, RR X.K H m' G' H' rv v → Q v H') := g
    have s1 := Stp.newH s r hp (.dK [])
    have np := Rel.outNew s r hp
    have gp := s.no hp
    refine sds EN A h4 r s1.sub2 rs (Good.mono (Good.bindL s1 g0) fun ds m2 G2 H2 s2 ⟨h2, e1, r2, s02, g2⟩ ps l => ?_)
    cases e2 : pairK ds with
    | none => simp only [e2] at g2; exact g2.elim
    | some kvs =>
      simp only [e2] at g2
      have g3 : Good c X.K m G H (fun C d H' => W C d t H') (.ok (RV.dct (mergeD kvs)) h2) (fun rv m' G' H' => ∀ v, RR X.K H m' G' H' rv v → Q v H') := g2
      obtain ⟨⟨ws, e3, q⟩, e4⟩ := pairK_ok e2 l
      have hp2 : H2 p = some (.dK []) := s2.keepH p _ upd_same np
      have gp2 : G2 p = none := s2.stillHid gp upd_same
      refine ⟨hp2, ws, e3, ?_, ?_⟩
      · have := evs_len e1
        rw [← q.length]; omega
      · exact g3 m2 G2 _ (Stp.hidW s02 _ hp gp2) r2 _ ⟨p, _, rfl, upd_same, gp2, s2.out np upd_same, hp, RKs.merge q .nil⟩
  | _ => exact Bool.noConfusion (show false = true from hm)
end
end Cw
end

section
set_option Elab.async false
set_option linter.all false
set_option maxRecDepth 100000
set_option maxHeartbeats 4000000
/-! Cw18z: a zip of two lists or two tuples, stored first and walked then. -/
namespace Cw
open PySem PySem.Spec PyProof.Rows L2

/-- an object that stays as it is while it is held -/
def FxO (a : Addr) (o : Obj) : HO := .ext fun h => h.get? a = some o
theorem fxO_ok {P : Program} {w : World} {H : Hp} {h : Heap} {a : Addr} {o : Obj} (e : h.get? a = some o) : ObjOk P w H h a (FxO a o) := ⟨e, ⟨_, e⟩, fun h1 h2 q k => k _ q⟩
abbrev Obs := List (Addr × Obj)
def updF (l : Obs) (H : Hp) : Hp := fun b => match l.lookup b with
  | some o => some (FxO b o)
  | none => H b
theorem updF_in {l : Obs} {H : Hp} {b : Addr} {o : Obj} (e : l.lookup b = some o) : updF l H b = some (FxO b o) := by unfold updF; rw [e]
theorem updF_out {l : Obs} {H : Hp} {b : Addr} (e : l.lookup b = none) : updF l H b = H b := by unfold updF; rw [e]
section
variable {X : Cx} {pins : List (Addr × Obj)} {σ : L2.St} {H : Hp} {s : Shared} {h' : Heap} {l : Obs}
/-- new objects are held -/
theorem inv_hold (I : Inv X pins σ H s) (k : ∀ b u, s.heap.get? b = some u → h'.get? b = some u) (hl : ∀ b o, l.lookup b = some o → s.heap.objs.size ≤ b ∧ h'.get? b = some o) : Inv X pins σ (updF l H) { s with heap := h' } := by
  have old : ∀ {b : Addr} {u : Obj}, s.heap.get? b = some u → l.lookup b = none := fun {b u} e => by
    cases q : l.lookup b with
    | none => rfl
    | some o => exact absurd (Heap.lt_size e) (Nat.not_lt.mpr (hl b o q).1)
  have oldH : ∀ {b : Addr} {u : HO}, H b = some u → l.lookup b = none := fun {b u} e => by
    obtain ⟨o, q⟩ := objOk_get (I.hok b u e)
    exact old q
  have u : Un X.fs [] H (updF l H) s.heap h' := ⟨fun b o e _ _ _ => k b o e, fun b o e _ _ _ => ⟨o.slots, k b o e⟩, fun b o e n _ => by rw [updF_out (old e)]; exact n, fun b o e _ => ⟨o, k b o e⟩,
    fun b xs e => by rw [updF_out (oldH e)]; exact e, fun b o x e => by rw [updF_out (oldH e)]; exact e, fun b ps e => ⟨#[], by rw [updF_out (oldH e)]; simpa using e⟩⟩
  refine I.un (t' := s.toks) u fun b u e => ?_
  cases q : l.lookup b with
  | some o =>
    rw [updF_in q] at e
    cases e
    exact fxO_ok (hl b o q).2
  | none =>
    rw [updF_out q] at e
    exact (I.hok b u e).stay (fun c v _ z => k c v z) (fun c z => by rw [updF_out (oldH z)]; exact z) fun c xs z => by rw [updF_out (oldH z)]; exact z
/-- what was held is let go -/
theorem inv_let (I : Inv X pins σ (updF l H) s) (hn : ∀ b o, l.lookup b = some o → H b = none) : Inv X pins σ H s := by
  have sub : ∀ {b : Addr} {u : HO}, H b = some u → updF l H b = some u := fun {b u} e => by
    cases q : l.lookup b with
    | none => rw [updF_out q]; exact e
    | some o => rw [hn b o q] at e; cases e
  have back : ∀ {b : Addr} {u : HO}, updF l H b = some u → (∀ φ, u ≠ .ext φ) → H b = some u := fun {b u} e n => by
    cases q : l.lookup b with
    | none => rw [updF_out q] at e; exact e
    | some o => rw [updF_in q] at e; cases e; exact absurd rfl (n _)
  have non : ∀ b, updF l H b = none → H b = none := fun b e => by
    cases q : H b with
    | none => rfl
    | some u => rw [sub q] at e; cases e
  have u : Un X.fs [] (updF l H) H s.heap s.heap := ⟨fun _ _ e _ _ _ => e, fun _ o e _ _ _ => ⟨o.slots, e⟩, fun b _ _ z _ => non b z, fun _ o e _ => ⟨o, e⟩, fun b xs z => back z (fun φ w => nomatch w), fun b o x z => back z (fun φ w => nomatch w),
    fun b ps z => ⟨#[], by rw [back z (fun φ w => nomatch w)]; simp⟩⟩
  exact I.un (t' := s.toks) u fun b v e => (I.hok b v (sub e)).stay (fun _ _ _ z => z) (fun c z => back z (fun φ w => nomatch w)) fun c xs z => back z (fun φ w => nomatch w)
theorem fp_let (I : Inv X pins σ (updF l H) s) (hn : ∀ b o, l.lookup b = some o → H b = none) {b : Addr} {o : Obj} (e : l.lookup b = some o) (hy : X.s_0.heap.objs.size ≤ b) : FpOk X pins H b :=
  ⟨hn b o e, (ItX.inv_fp I (updF_in e) hy).2⟩
end
/-- a zip at it: its objects l, what it yields J -/
structure ZV (X : Cx) (J : It) (it : Addr) (l : Obs) (H : Hp) : Prop where
  fresh : ∀ b o, l.lookup b = some o → H b = none
  young : ∀ b o, l.lookup b = some o → X.s_0.heap.objs.size ≤ b
  turn : ∀ (elts : List Expr) (kk : Nat) (tpos : Pos), ∃ (fp : List Addr) (tn : Nat → Heap → Prop), Turn X.prog X.w X.K (.Tuple elts kk tpos) J fp it tn ∧ (∀ b ∈ fp, ∃ o, l.lookup b = some o) ∧ ∀ h : Heap, (∀ b o, l.lookup b = some o → h.get? b = some o) → tn 0 h
def rZipV (X : Cx) : List V → Hp → VK → Prop := fun vs H Q => ∃ a b xs ys, vs = [V.ref a, V.ref b] ∧
  ((SqL X.K H a xs ∧ SqL X.K H b ys ∧ ∀ it l, ZV X (Itz X.K a b) it l H → Q (.ref it) (updF l H)) ∨ (SqT X.K H a xs ∧ SqT X.K H b ys ∧ ∀ it l, ZV X (RZ.ItzT X.K a b) it l H → Q (.ref it) (updF l H)))
theorem obs_mem {l : Obs} {b : Addr} (h : b ∈ l.map (·.1)) : ∃ o, l.lookup b = some o := by
  induction l with
  | nil => cases h
  | cons p r ih =>
    rw [List.lookup_cons]
    cases hb : b == p.1 with
    | true => exact ⟨_, rfl⟩
    | false =>
      rcases List.mem_cons.mp h with z | z
      · rw [z] at hb; simp at hb
      · exact ih z
theorem obs_look {l : Obs} (nd : (l.map (·.1)).Nodup) {p : Addr × Obj} (h : p ∈ l) : l.lookup p.1 = some p.2 := by
  induction l with
  | nil => cases h
  | cons q r ih =>
    rw [List.map_cons, List.nodup_cons] at nd
    rw [List.lookup_cons]
    rcases List.mem_cons.mp h with z | z
    · subst z; simp
    · have : (p.1 == q.1) = false := by
        simp only [beq_eq_false_iff_ne]
        intro w
        exact nd.1 (by rw [← w]; exact List.mem_map_of_mem z)
      rw [this]
      exact ih nd.2 z
theorem obs_get {l : Obs} {h : Heap} (f : ∀ p ∈ l, h.get? p.1 = some p.2) : ∀ b o, l.lookup b = some o → (b, o) ∈ l ∧ h.get? b = some o := fun b o e => by
  have : (b, o) ∈ l := by
    clear f
    induction l with
    | nil => cases e
    | cons q r ih =>
      rw [List.lookup_cons] at e
      cases hb : b == q.1 with
      | true => rw [hb] at e; cases e; have := beq_iff_eq.mp hb; subst this; exact List.mem_cons_self
      | false => rw [hb] at e; exact List.mem_cons_of_mem _ (ih e)
  exact ⟨this, f _ this⟩
theorem nd5 (n : Nat) : ([n + 4, n + 2, n + 3, n, n + 1] : List Nat).Nodup := by
  simp
theorem zv_of {X : Cx} {pins : List (Addr × Obj)} {σ : L2.St} {H : Hp} {s : Shared} {h' : Heap} {J : It} {n : Nat} {l : Obs} {tn : Nat → Heap → Prop} (I : Inv X pins σ H s) (hn : s.heap.objs.size = n) (hl : l.map (·.1) = [n + 4, n + 2, n + 3, n, n + 1]) (hg : ∀ p ∈ l, h'.get? p.1 = some p.2) (hk : ∀ b u, s.heap.get? b = some u → h'.get? b = some u)
    (T : ∀ (elts : List Expr) (kk : Nat) (tpos : Pos), Turn X.prog X.w X.K (.Tuple elts kk tpos) J [n + 4, n + 2, n + 3, n, n + 1] (n + 4) tn) (h0 : ∀ h : Heap, (∀ p ∈ l, h.get? p.1 = some p.2) → tn 0 h) :
    ZV X J (n + 4) l H ∧ Inv X pins σ (updF l H) { s with heap := h' } := by
  have key : ∀ b o, l.lookup b = some o → s.heap.objs.size ≤ b ∧ h'.get? b = some o := fun b o e => by
    obtain ⟨m, g⟩ := obs_get hg b o e
    have hb : b ∈ [n + 4, n + 2, n + 3, n, n + 1] := by rw [← hl]; exact List.mem_map_of_mem (f := (·.1)) m
    have e' : b = n + 4 ∨ b = n + 2 ∨ b = n + 3 ∨ b = n ∨ b = n + 1 := by simpa using hb
    refine ⟨?_, g⟩
    rw [hn]
    rcases e' with z | z | z | z | z <;> rw [z] <;> first | exact Nat.le_refl _ | exact Nat.le_add_right _ _
  refine ⟨⟨fun b o e => I.hok.fresh (key b o e).1, fun b o e => Nat.le_trans I.sz (key b o e).1, fun elts kk tpos => ⟨_, tn, T elts kk tpos, fun b hb => obs_mem (by rw [hl]; exact hb), fun h hh => h0 h fun p hp => hh _ _ (obs_look (by rw [hl]; exact nd5 n) hp)⟩⟩, inv_hold I hk key⟩
def zO (TI TO : Addr) : Obj := { cls := .type "zip", dict := none, data := .fields #[.none, .bool false, .bool false, .ref TI, .ref TO], slots := #[] }
def pO (a b : Value) : Obj := { cls := .type "tuple", data := .seq #[a, b] }
theorem call_zipV {X : Cx} : CallR X (.type "zip") (rZipV X) := by
  intro pins s σ H xs us Q I r h
  obtain ⟨a, b, as, bs, rfl, h⟩ := h
  cases r with
  | cons r r' =>
  cases r' with
  | cons r' rr =>
  cases rr
  cases r
  cases r'
  rcases h with ⟨hx, hy, q⟩ | ⟨hx, hy, q⟩
  · obtain ⟨its, rv, p1, _⟩ := I.list hx
    obtain ⟨its2, rv2, p2, _⟩ := I.list hy
    refine call_zip_2 p1.isList p2.isList fun h' hz hTI hTO h1 h2 hsz hk => ?_
    obtain ⟨z0, e0, c0, d0⟩ := h1
    obtain ⟨z1, e1, c1, d1⟩ := h2
    have la := p1.lt
    have lb := p2.lt
    generalize hn : s.heap.objs.size = n at *
    obtain ⟨zv, I'⟩ := zv_of (J := Itz X.K a b) (l := [(n + 4, zO (n + 2) (n + 3)), (n + 2, pO (.ref n) (.ref (n + 1))), (n + 3, pO .none .none), (n, z0), (n + 1, z1)]) I hn rfl (fun p hp => by
        have : p = (n + 4, zO (n + 2) (n + 3)) ∨ p = (n + 2, pO (.ref n) (.ref (n + 1))) ∨ p = (n + 3, pO .none .none) ∨ p = (n, z0) ∨ p = (n + 1, z1) := by simpa using hp
        rcases this with z | z | z | z | z <;> subst z
        · exact hz
        · exact hTI
        · exact hTO
        · exact e0
        · exact e1) hk (fun elts kk tpos => turn_zip (PySem.W.ktu_apart n a b la lb)) (fun g hg => ⟨hg (n + 4, zO (n + 2) (n + 3)) (by simp), hg (n + 2, pO (.ref n) (.ref (n + 1))) (by simp), ⟨_, _, hg (n + 3, pO .none .none) (by simp)⟩, ⟨z0, hg (n, z0) (by simp), c0, d0⟩, ⟨z1, hg (n + 1, z1) (by simp), c1, d1⟩⟩)
    exact ⟨.ref (n + 4), _, I', rfl, q _ _ zv⟩
  · obtain ⟨its, rv, p1, _⟩ := I.tuple hx
    obtain ⟨its2, rv2, p2, _⟩ := I.tuple hy
    obtain ⟨o1, ho1, _⟩ := id p1
    obtain ⟨o2, ho2, _⟩ := id p2
    have la := Heap.lt_size ho1
    have lb := Heap.lt_size ho2
    refine RZ.call_zipT (show s.heap.IsTuple a its.toArray from p1) (show s.heap.IsTuple b its2.toArray from p2) fun h' hz hTI hTO h1 h2 hsz hk => ?_
    obtain ⟨z0, e0, c0, d0⟩ := h1
    obtain ⟨z1, e1, c1, d1⟩ := h2
    generalize hn : s.heap.objs.size = n at *
    obtain ⟨zv, I'⟩ := zv_of (J := RZ.ItzT X.K a b) (l := [(n + 4, zO (n + 2) (n + 3)), (n + 2, pO (.ref n) (.ref (n + 1))), (n + 3, pO .none .none), (n, z0), (n + 1, z1)]) I hn rfl (fun p hp => by
        have : p = (n + 4, zO (n + 2) (n + 3)) ∨ p = (n + 2, pO (.ref n) (.ref (n + 1))) ∨ p = (n + 3, pO .none .none) ∨ p = (n, z0) ∨ p = (n + 1, z1) := by simpa using hp
        rcases this with z | z | z | z | z <;> subst z
        · exact hz
        · exact hTI
        · exact hTO
        · exact e0
        · exact e1) hk (fun elts kk tpos => RZ.turn_zipT (PySem.W.ktu_apart n a b la lb)) (fun g hg => ⟨hg (n + 4, zO (n + 2) (n + 3)) (by simp), hg (n + 2, pO (.ref n) (.ref (n + 1))) (by simp), ⟨_, _, hg (n + 3, pO .none .none) (by simp)⟩, ⟨z0, hg (n, z0) (by simp), c0, d0⟩, ⟨z1, hg (n + 1, z1) (by simp), c1, d1⟩⟩)
    exact ⟨.ref (n + 4), _, I', rfl, q _ _ zv⟩
/-- a zip by its name -/
theorem pi_zv {X : Cx} {elts : List Expr} {kk : Nat} {tpos : Pos} {k : Nat} {x : Str} {p : Pos} (hN : X.N[k]? = some x) (hv : Vis X.env.scope x) (hd : (x == ("__debug__" : Str)) = false) (hcd : (x == ("__classdict__" : Str)) = false) :
    PI X (.Tuple elts kk tpos) (.Name x p) (fun σ H R => ∃ it l J H0, σ[k]? = some (some (V.ref it)) ∧ ZV X J it l H0 ∧ H = updF l H0 ∧ R J H0) := by
  refine ⟨fun pins s σ H R I h => ?_⟩
  obtain ⟨it, l, J, H0, hs, Z, rfl, q⟩ := h
  refine thn ((pe_var (pos := p) (i := k) hN hv hd hcd).run pins s σ _ (fun v H1 => v = .ref it ∧ H1 = updF l H0) I ⟨.ref it, hs, rfl, rfl⟩) fun u s1 ⟨v, H1, I1, r1, ev, eH⟩ => ?_
  subst ev eH
  cases r1
  obtain ⟨fp, tn, T, hfp, h0⟩ := Z.turn elts kk tpos
  have st : tn 0 s1.heap := h0 _ fun b o e => (I1.hok b _ (updF_in e)).1
  refine T.self X.A 0 s1 _ _ st ?_
  exact ⟨it, fp, tn, J, H0, rfl, inv_let I1 Z.fresh, T, st, fun b hb => by obtain ⟨o, e⟩ := hfp b hb; exact fp_let I1 Z.fresh e (Z.young b o e), q⟩
end Cw
end

section
set_option Elab.async false
set_option linter.all false
set_option maxRecDepth 100000
set_option maxHeartbeats 4000000
/-! Cw19: every expression. -/
namespace Cw
open PySem PySem.Spec PyProof.Rows L2
section
variable {ck : Ck} {c : Cs} {tb : Tb} {n : Nat}
theorem se_no : SE ck c tb n .no := by
  intro X W x sc EN hsc hm
  cases x <;> exact Bool.noConfusion (show false = true from hm)
theorem se_bad {e : I} (h : ∀ N sc x, mE ck N sc e x = true → False) : SE ck c tb n e := by
  intro X W x sc EN hsc hm
  exact (h _ _ _ hm).elim
theorem st_bad {e : I} (h : ∀ N sc x, mE ck N sc e x = true → False) : ST ck c tb n e := by
  intro X W x sc EN hsc hm
  exact (h _ _ _ hm).elim
theorem si_bad {e : I} (h : ∀ N sc x, mI ck N sc e x = true → False) : SI ck c tb n e := by
  intro X W tg x sc EN hsc hm
  exact (h _ _ _ hm).elim
theorem no_it {e : I} : ∀ N sc x, mE ck N sc (.it e) x = true → False := fun N sc x h => by cases x <;> exact Bool.noConfusion (show false = true from h)
theorem no_rng {e : List I} : ∀ N sc x, mE ck N sc (.rng e) x = true → False := fun N sc x h => by cases x <;> exact Bool.noConfusion (show false = true from h)
theorem no_enum {e : I} : ∀ N sc x, mE ck N sc (.enum e) x = true → False := fun N sc x h => by cases x <;> exact Bool.noConfusion (show false = true from h)
theorem no_zip {e f : I} : ∀ N sc x, mE ck N sc (.zip e f) x = true → False := fun N sc x h => by cases x <;> exact Bool.noConfusion (show false = true from h)
theorem no_no : ∀ N sc x, mE ck N sc .no x = true → False := fun N sc x h => by cases x <;> exact Bool.noConfusion (show false = true from h)
/-- as what is walked only four kinds -/
def isIt : I → Bool
  | .it _ => true
  | .rng _ => true
  | .enum _ => true
  | .zip _ _ => true
  | _ => false
theorem no_mI {e : I} (h : isIt e = false) : ∀ N sc x, mI ck N sc e x = true → False := fun N sc x q => by
  cases e <;> first | (cases x <;> exact Bool.noConfusion (show false = true from q)) | cases h
/-- tests of an ordinary shape -/
def ordT : I → Bool
  | .nt _ => false
  | .and _ => false
  | .or _ => false
  | .cmp _ _ _ => false
  | .chn _ _ _ _ _ => false
  | .chn3 _ _ _ _ _ _ _ => false
  | .rcmp _ _ _ => false
  | .ife _ _ _ => false
  | _ => true
theorem ord_plain {e : I} (h : ordT e = true) : ∀ N sc x, mE ck N sc e x = true → plainTest x = true := fun N sc x q => by
  cases e with
  | «mut» e => exact (ba (show (plainTest x && mE ck N sc e x) = true from q)).1
  | nt _ => cases h
  | and _ => cases h
  | or _ => cases h
  | cmp _ _ _ => cases h
  | chn _ _ _ _ _ => cases h
  | chn3 _ _ _ _ _ _ _ => cases h
  | rcmp _ _ _ => cases h
  | ife _ _ _ => cases h
  | neg a =>
    cases x with
    | UnaryOp op y p => cases op <;> first | rfl | exact Bool.noConfusion (show false = true from q)
    | _ => exact Bool.noConfusion (show false = true from q)
  | _ => cases x <;> first | rfl | exact Bool.noConfusion (show false = true from q)
mutual
theorem all : ∀ e : I, SE ck c tb n e ∧ ST ck c tb n e ∧ SI ck c tb n e
  | .v _ => ⟨se_v, st_of se_v (ord_plain rfl), si_bad (no_mI rfl)⟩
  | .c _ => ⟨se_c, st_of se_c (ord_plain rfl), si_bad (no_mI rfl)⟩
  | .g _ _ => ⟨se_g, st_of se_g (ord_plain rfl), si_bad (no_mI rfl)⟩
  | .no => ⟨se_no, st_bad no_no, si_bad (no_mI rfl)⟩
  | .tup es => let h := se_tup (allL es).1; ⟨h, st_of h (ord_plain rfl), si_bad (no_mI rfl)⟩
  | .lst es => let h := se_lst (allL es).1; ⟨h, st_of h (ord_plain rfl), si_bad (no_mI rfl)⟩
  | .dct es => let h := se_dct (allL es).2.2.2.2.2.2.2; ⟨h, st_of h (ord_plain rfl), si_bad (no_mI rfl)⟩
  | .lrg _ es => let h := se_lrg (allL es).1; ⟨h, st_of h (ord_plain rfl), si_bad (no_mI rfl)⟩
  | .rcmp _ a b => ⟨se_rcmp (all a).1 (all b).1, st_rcmp (all a).1 (all b).1, si_bad (no_mI rfl)⟩
  | .bin _ a b => let h := se_bin (all a).1 (all b).1; ⟨h, st_of h (ord_plain rfl), si_bad (no_mI rfl)⟩
  | .neg a => let h := se_neg (all a).1; ⟨h, st_of h (ord_plain rfl), si_bad (no_mI rfl)⟩
  | .nt a => ⟨se_nt (all a).1, st_nt (all a).2.1, si_bad (no_mI rfl)⟩
  | .and es => ⟨se_and (allL es).2.2.2.1, st_and (allL es).2.2.2.2.2.1, si_bad (no_mI rfl)⟩
  | .or es => ⟨se_or (allL es).2.2.2.2.1, st_or (allL es).2.2.2.2.2.2.1, si_bad (no_mI rfl)⟩
  | .cmp _ a b => ⟨se_cmp (all a).1 (all b).1, st_cmp (all a).1 (all b).1, si_bad (no_mI rfl)⟩
  | .chn _ _ a b d => ⟨se_chn (all a).1 (all b).1 (all d).1, st_chn (all a).1 (all b).1 (all d).1, si_bad (no_mI rfl)⟩
  | .chn3 _ _ _ a b d e => ⟨se_chn3 (all a).1 (all b).1 (all d).1 (all e).1, st_chn3 (all a).1 (all b).1 (all d).1 (all e).1, si_bad (no_mI rfl)⟩
  | .ife d a b => ⟨se_ife (all d).2.1 (all a).1 (all b).1, st_ife (all d).2.1 (all a).2.1 (all b).2.1, si_bad (no_mI rfl)⟩
  | .ix a i => let h := se_ix (all a).1 (all i).1; ⟨h, st_of h (ord_plain rfl), si_bad (no_mI rfl)⟩
  | .sl a l r => let h := se_sl (all a).1 (all l).1 (all r).1; ⟨h, st_of h (ord_plain rfl), si_bad (no_mI rfl)⟩
  | .rev a => let h := se_rev (all a).1; ⟨h, st_of h (ord_plain rfl), si_bad (no_mI rfl)⟩
  | .call _ _ _ es _ ks => let h := se_call (allL es).1 (allL ks).2.2.1; ⟨h, st_of h (ord_plain rfl), si_bad (no_mI rfl)⟩
  | .bi _ es => let h := se_bi (allL es).2.1; ⟨h, st_of h (ord_plain rfl), si_bad (no_mI rfl)⟩
  | .isi a _ => let h := se_isi (all a).1; ⟨h, st_of h (ord_plain rfl), si_bad (no_mI rfl)⟩
  | .mth _ o es => let h := se_mth (all o).1 (allL es).1; ⟨h, st_of h (ord_plain rfl), si_bad (no_mI rfl)⟩
  | .mut e => let h := se_mut (all e).1; ⟨h, st_of h (ord_plain rfl), si_bad (no_mI rfl)⟩
  | .lc e _ i d _ => let h := se_lc (all e).1 (all i).2.2 (all d).2.1; ⟨h, st_of h (ord_plain rfl), si_bad (no_mI rfl)⟩
  | .lc2 e _ i _ es2 _ _ => let h := se_lc2 (all e).1 (all i).2.2 (allL es2).1; ⟨h, st_of h (ord_plain rfl), si_bad (no_mI rfl)⟩
  | .it e => ⟨se_bad no_it, st_bad no_it, si_it (all e).1⟩
  | .rng es => ⟨se_bad no_rng, st_bad no_rng, si_rng (allL es).1⟩
  | .enum e => ⟨se_bad no_enum, st_bad no_enum, si_enum (all e).1⟩
  | .zip a b => ⟨se_bad no_zip, st_bad no_zip, si_zip (all a).1 (all b).1⟩
theorem allL : ∀ es : List I, SEs ck c tb n es ∧ SRs ck c tb n es ∧ SKs ck c tb n es ∧ SA ck c tb n es ∧ SO ck c tb n es ∧ SAT ck c tb n es ∧ SOT ck c tb n es ∧ SAll ck c tb n es
  | [] => ⟨ses_nil, srs_nil, sks_nil, sa_nil, so_nil, sat_nil, sot_nil, fun _ h => nomatch h⟩
  | e :: es => ⟨ses_cons (all e).1 (allL es).1, srs_cons (all e).1 (allL es).2.1, sks_cons (all e).1 (allL es).2.2.1, sa_cons (all e).1 (allL es).2.2.2.1, so_cons (all e).1 (allL es).2.2.2.2.1, sat_cons (all e).2.1 (allL es).2.2.2.2.2.1, sot_cons (all e).2.1 (allL es).2.2.2.2.2.2.1, fun x h => (List.mem_cons.mp h).elim (fun z => z ▸ (all e).1) fun z => (allL es).2.2.2.2.2.2.2 x z⟩
end
end
end Cw
end

section
set_option Elab.async false
set_option linter.all false
set_option maxRecDepth 100000
set_option maxHeartbeats 4000000
/-! Cw20: statements: the check; what is good; stores. -/
namespace Cw
open PySem PySem.Spec PyProof.Rows L2

/-! ### which stores are swapped -/
def compOf : Expr → Option Scope
  | .ListComp _ _ s _ => some s
  | .SetComp _ _ s _ => some s
  | .DictComp _ _ _ s _ => some s
  | _ => none
def swB (sc : Scope) (tg x : Expr) : Bool := match compOf x with
  | none => false
  | some scope => match tg with
    | .Name t pos => sc.names.lookup t == some .local && pos.line == x.pos.line && !(scope.names.any fun (n, k) => n == t && (k == .local || k == .cell))
    | _ => false
theorem bk_fun {env : Env} (hk : env.scope.kind = .function) : (env.blockKind == ScopeKind.function) = true := by
  unfold Env.blockKind; rw [hk]; rfl
theorem sw_ok {env : Env} (hk : env.scope.kind = .function) {tg x : Expr} {line : Nat} : swapsWith x (some tg) line env = pure (swB env.scope tg x) := by
  have hb := bk_fun hk
  cases x <;> first | rfl | (cases tg <;> first | rfl | (unfold swapsWith swB Env.kindOf; simp only [compOf]; rw [hb]; simp))
theorem sw_none {env : Env} {x : Expr} {line : Nat} (h : (compOf x).isNone = true) : swapsWith x none line env = pure false := by
  cases x <;> first | rfl | cases h
def locNames (sc : Scope) (ts : List Expr) : List Str := ts.filterMap fun
  | .Name id pos => if sc.names.lookup id == some .local && pos.line == (ts.head?.map (·.pos.line)).getD 0 then some id else none
  | _ => none
def swN (sc : Scope) (tg x : Expr) : Bool := match tg with
  | .Tuple ts _ _ => (match x with
    | .Tuple vs _ _ => !(ts.length == 2 || ts.length == 3) || vs.length != ts.length || (locNames sc ts).length != ts.length
    | _ => true)
  | .List .. => false
  | _ => true
theorem swN_ok {env : Env} (hk : env.scope.kind = .function) {tg x : Expr} (h : swN env.scope tg x = true) : swappedStores [tg] x env = pure none := by
  have hb := bk_fun hk
  cases tg with
  | Tuple ts k p =>
    cases x with
    | Tuple vs k2 p2 =>
      have h : ((!(ts.length == 2 || ts.length == 3) || vs.length != ts.length) || (locNames env.scope ts).length != ts.length) = true := h
      unfold swappedStores
      by_cases h1 : (!(ts.length == 2 || ts.length == 3) || vs.length != ts.length) = true
      · have e : (!(ts.length == 2 || ts.length == 3) || vs.length != ts.length || env.blockKind != ScopeKind.function) = true := by rw [h1]; rfl
        simp only [pure_bind]
        rw [if_pos e]
      · have e : ¬ (!(ts.length == 2 || ts.length == 3) || vs.length != ts.length || env.blockKind != ScopeKind.function) = true := by
          intro z
          rw [Bool.or_eq_true] at z
          rcases z with z | z
          · exact h1 z
          · rw [bne, hb] at z; cases z
        have h2 : ((locNames env.scope ts).length != ts.length) = true := by
          rcases Bool.or_eq_true_iff.mp h with z | z
          · exact absurd z h1
          · exact z
        simp only [pure_bind]
        rw [if_neg e]
        split
        · rfl
        · refine Eq.trans (if_pos ?_) rfl
          exact Bool.or_eq_true_iff.mpr (.inl h2)
    | _ => rfl
  | List _ _ => cases h
  | _ => rfl

def notStar : Expr → Bool
  | .Starred .. => false
  | _ => true
/-- a, b = x, y, stored from the right -/
def parB (sc : Scope) (x y : Str) (px py : Pos) (a b : Expr) : Bool :=
  sc.names.lookup x == some .local && sc.names.lookup y == some .local && py.line == px.line && !(decide (x = y)) && notStar a && notStar b && !([a, b].all (foldedForSure 8)) && !([a, b].all (constantsAlone 8))
theorem par_ok {env : Env} (hk : env.scope.kind = .function) {x y : Str} {px py pt p2 : Pos} {kt k2 : Nat} {a b : Expr} (h : parB env.scope x y px py a b = true) :
    swappedStores [.Tuple [.Name x px, .Name y py] kt pt] (.Tuple [a, b] k2 p2) env = pure (some [x, y]) := by
  have hb := bk_fun hk
  unfold parB at h
  simp only [Bool.and_eq_true, Bool.not_eq_true', beq_iff_eq, decide_eq_false_iff_not] at h
  obtain ⟨⟨⟨⟨⟨⟨⟨h1, h2⟩, h3⟩, h4⟩, h5⟩, h6⟩, h7⟩, h8⟩ := h
  have e1 : env.kindOf x = some .local := h1
  have e2 : env.kindOf y = some .local := h2
  have e0 : (env.blockKind != ScopeKind.function) = false := by rw [bne, hb]; rfl
  have n5 : ([a, b].any fun | .Starred .. => true | _ => false) = false := by
    have k : ∀ {a : Expr}, notStar a = true → (match a with | .Starred .. => true | _ => false) = false := fun {a} h => by cases a <;> first | rfl | cases h
    simp only [List.any_cons, List.any_nil, Bool.or_false, Bool.or_eq_false_iff]
    exact ⟨k h5, k h6⟩
  have eh : (([Expr.Name x px, Expr.Name y py].head?.map (·.pos.line)).getD 0) = px.line := rfl
  have q1 : (env.kindOf x == some NameKind.local && px.line == px.line) = true := by rw [e1]; simp
  have q2 : (env.kindOf y == some NameKind.local && py.line == px.line) = true := by rw [e2, h3]; simp
  have nm : ([Expr.Name x px, Expr.Name y py].filterMap fun e => match e with
    | .Name id pos => if (env.kindOf id == some NameKind.local && pos.line == px.line) = true then some id else none
    | _ => none) = [x, y] := by
    simp only [List.filterMap_cons, List.filterMap_nil, q1, q2, if_true]
  have dd : ([x, y].eraseDups).length = 2 := by
    have h4' : (y == x) = false := by simpa using fun z => h4 z.symm
    simp [List.eraseDups, List.eraseDupsBy, List.eraseDupsBy.loop, h4']
  unfold swappedStores
  refine Eq.trans (if_neg ?_) ?_
  · rw [e0]; simp
  refine Eq.trans (if_neg ?_) ?_
  · exact fun z => Bool.noConfusion (n5.symm.trans z)
  refine Eq.trans (if_neg ?_) ?_
  · have k : ∀ l : List Str, l = [x, y] → ¬ ((l.length != 2 || l.eraseDups.length != l.length) = true) := fun l e => by
      subst e; rw [dd]; show ¬ ((2 != 2 || 2 != 2) = true); decide
    exact k _ nm
  refine Eq.trans (if_neg ?_) ?_
  · rw [h7]; decide
  refine Eq.trans (if_neg ?_) ?_
  · rw [h8]; decide
  exact congrArg (fun l => (pure (some l) : Sem (Option (List Str)))) nm

/-- a, b, c = x, y, z, stored from the right -/
def parB3 (sc : Scope) (x y z : Str) (px py pz : Pos) (a b d : Expr) : Bool :=
  sc.names.lookup x == some .local && sc.names.lookup y == some .local && sc.names.lookup z == some .local && py.line == px.line && pz.line == px.line && !(decide (x = y)) && !(decide (x = z)) && !(decide (y = z)) && notStar a && notStar b && notStar d && !([a, b, d].all (foldedForSure 8)) && !([a, b, d].all (constantsAlone 8))
theorem par3_ok {env : Env} (hk : env.scope.kind = .function) {x y z : Str} {px py pz pt p2 : Pos} {kt k2 : Nat} {a b d : Expr} (h : parB3 env.scope x y z px py pz a b d = true) :
    swappedStores [.Tuple [.Name x px, .Name y py, .Name z pz] kt pt] (.Tuple [a, b, d] k2 p2) env = pure (some [x, y, z]) := by
  have hb := bk_fun hk
  unfold parB3 at h
  simp only [Bool.and_eq_true, Bool.not_eq_true', beq_iff_eq, decide_eq_false_iff_not] at h
  obtain ⟨⟨⟨⟨⟨⟨⟨⟨⟨⟨⟨⟨h1, h2⟩, h3⟩, l1⟩, l2⟩, n1⟩, n2⟩, n3⟩, h5⟩, h6⟩, h6'⟩, h7⟩, h8⟩ := h
  have e1 : env.kindOf x = some .local := h1
  have e2 : env.kindOf y = some .local := h2
  have e3 : env.kindOf z = some .local := h3
  have e0 : (env.blockKind != ScopeKind.function) = false := by rw [bne, hb]; rfl
  have n5 : ([a, b, d].any fun | .Starred .. => true | _ => false) = false := by
    have k : ∀ {a : Expr}, notStar a = true → (match a with | .Starred .. => true | _ => false) = false := fun {a} h => by cases a <;> first | rfl | cases h
    simp only [List.any_cons, List.any_nil, Bool.or_false, Bool.or_eq_false_iff]
    exact ⟨k h5, k h6, k h6'⟩
  have q1 : (env.kindOf x == some NameKind.local && px.line == px.line) = true := by rw [e1]; simp
  have q2 : (env.kindOf y == some NameKind.local && py.line == px.line) = true := by rw [e2, l1]; simp
  have q3 : (env.kindOf z == some NameKind.local && pz.line == px.line) = true := by rw [e3, l2]; simp
  have nm : ([Expr.Name x px, Expr.Name y py, Expr.Name z pz].filterMap fun e => match e with
    | .Name id pos => if (env.kindOf id == some NameKind.local && pos.line == px.line) = true then some id else none
    | _ => none) = [x, y, z] := by
    simp only [List.filterMap_cons, List.filterMap_nil, q1, q2, q3, if_true]
  have dd : ([x, y, z].eraseDups).length = 3 := by
    have a1 : (y == x) = false := by simpa using fun w => n1 w.symm
    have a2 : (z == x) = false := by simpa using fun w => n2 w.symm
    have a3 : (z == y) = false := by simpa using fun w => n3 w.symm
    simp [List.eraseDups, List.eraseDupsBy, List.eraseDupsBy.loop, a1, a2, a3]
  unfold swappedStores
  refine Eq.trans (if_neg ?_) ?_
  · rw [e0]; simp
  refine Eq.trans (if_neg ?_) ?_
  · exact fun z => Bool.noConfusion (n5.symm.trans z)
  refine Eq.trans (if_neg ?_) ?_
  · have k : ∀ l : List Str, l = [x, y, z] → ¬ ((l.length != 3 || l.eraseDups.length != l.length) = true) := fun l e => by
      subst e; rw [dd]; show ¬ ((3 != 3 || 3 != 3) = true); decide
    exact k _ nm
  refine Eq.trans (if_neg ?_) ?_
  · rw [h7]; decide
  refine Eq.trans (if_neg ?_) ?_
  · rw [h8]; decide
  exact congrArg (fun l => (pure (some l) : Sem (Option (List Str)))) nm

/-! ### the check -/
section
variable (ck : Ck) (N : List Str)
def mG1 (sc : Scope) : I → Expr → Bool
  | .v i, .Name y _ => decide (N[i]? = some y) && loc sc y
  | .ix o i, .Subscript a b _ => mE ck N sc o a && mE ck N sc i b
  | _, _ => false
def mGs (sc : Scope) : List I → List Expr → Bool
  | [], [] => true
  | t :: ts, x :: xs => mG1 ck N sc t x && mGs sc ts xs
  | _, _ => false
def mG (sc : Scope) : I → Expr → Bool
  | .tup ts, .Tuple xs _ _ => mGs ck N sc ts xs
  | .v i, x => mG1 ck N sc (.v i) x
  | .ix o i, x => mG1 ck N sc (.ix o i) x
  | _, _ => false
def mSw : I → Expr → Bool
  | .v i, .Name y _ => decide (N[i]? = some y)
  | _, _ => false
def mPar (sc : Scope) : I → Expr → Expr → Bool
  | .tup [.v i, .v j], .Tuple [.Name x px, .Name y py] _ _, .Tuple [a, b] _ _ => decide (N[i]? = some x) && decide (N[j]? = some y) && parB sc x y px py a b
  | _, _, _ => false
def mPar3 (sc : Scope) : I → Expr → Expr → Bool
  | .tup [.v i, .v j, .v l], .Tuple [.Name x px, .Name y py, .Name z pz] _ _, .Tuple [a, b, d] _ _ => decide (N[i]? = some x) && decide (N[j]? = some y) && decide (N[l]? = some z) && parB3 sc x y z px py pz a b d
  | _, _, _ => false
def isMt (e : I) : Bool := match e with
  | .tup _ => true
  | _ => false
def mSet (sc : Scope) (t e : I) (tg x : Expr) : Bool :=
  if swB sc tg x then mSw N t tg else if swN sc tg x then mG ck N sc t tg else isMt e && (mPar N sc t tg x || mPar3 N sc t tg x)
/-- name = zip(a, b) -/
def mZip (sc : Scope) (i : Nat) (a b : I) : Stmt → Bool
  | .Assign [.Name y _] (.Call (.Name z _) [x1, x2] [] _) _ => decide (N[i]? = some y) && loc sc y && decide (z = ("zip" : Str)) && bltn ck sc z && mE ck N sc a x1 && mE ck N sc b x2
  | _ => false
/-- return f([.. for .. in name]) -/
def mZr (sc : Scope) (i : Nat) (q : Bi) (e t c : I) (w : List (Str × Nat)) : Stmt → Bool
  | .Return (some (.Call (.Name qn _) [.ListComp x [⟨tg, .Name y _, ifs, k⟩] scope _] [] _)) _ => decide (qn = biName q) && bltn ck sc qn && decide (k = 0) && decide (N[i]? = some y) && vis sc y && okName y && blkC N sc scope w && mT N scope t tg && isTupT t && mE ck N (relS scope sc) e x && mIfs ck N (relS scope sc) c ifs
  | _ => false
end
/-! ### except suites -/
section
variable (ck : Ck) (N : List Str) (ks : List Nat) (n : Option Str) (sc : Scope)
def isExn (y : Str) : Bool := match n with
  | some n => decide (y = n) && okName y && vis sc y
  | none => false
mutual
def mHE : HE → Expr → Bool
  | .v i, .Name x _ => decide (N[i]? = some x) && vis sc x && okName x
  | .c d, x => mE ck N sc (.c d) x
  | .fld j f, .Attribute (.Name y _) g _ => decide (g = f) && isExn n sc y && ks.all fun k => ck.mks.any fun m => decide (m.1 = k) && decide (m.2.2[j]? = some f)
  | .isx ks' x, .Call (.Name q _) [.Name y _, .Name z _] [] _ => decide (q = ("isinstance" : Str)) && bltn ck sc q && isExn n sc y && decide (z = x) && gl sc x && okName x && ck.cls.any fun p => decide (p.2 = x) && ks.all fun k => (ks'.contains k == ck.sub.contains (k, p.1)) && ck.cls.any fun q => decide (q.1 = k)
  | .tup es, .Tuple xs _ _ => mHEs es xs && decide (xs.length ≤ 1000)
  | .bin o a b, .BinOp x p y _ => decide (p = opOf o) && mHE a x && mHE b y
  | .cmp o a b, .Compare x [p] [y] _ => decide (p = cOf o) && !(behindInMarks p y) && mHE a x && mHE b y
  | .and a b, .BoolOp .And [x, y] _ => mHE a x && mHE b y
  | _, _ => false
def mHEs : List HE → List Expr → Bool
  | [], [] => true
  | e :: es, x :: xs => mHE e x && mHEs es xs
  | _, _ => false
end
def mHd : Hd → Stmt → Bool
  | .ret e, .Return (some x) _ => mHE ck N ks n sc e x
  | .set j e, .Assign [.Name y _] x _ => decide (N[j]? = some y) && loc sc y && mHE ck N ks n sc e x
  | .pass, .Pass _ => true
  | _, _ => false
end
/-- the name that an exception is given -/
def nameOf (N : List Str) (sc : Scope) (i : Option Nat) (n : Option Str) : Bool := match i, n with
  | none, none => true
  | some i, some n => decide (N[i]? = some n) && (sc.names.lookup n == some .local)
  | _, _ => false
section
variable (ck : Ck) (N : List Str)
mutual
def mS : Scope → S → Stmt → Bool
  | sc, .set t e, .Assign [tg] x _ => mE ck N sc e x && mSet ck N sc t e tg x
  | sc, .aug i o e, .AugAssign (.Name y _) p x _ => decide (N[i]? = some y) && loc sc y && decide (p = opOf o) && isAug o && mE ck N sc e x
  | sc, .exp e, .Expr x _ => (compOf x).isNone && mE ck N sc e x
  | _, .pass, .Pass _ => true
  | _, .pass, .Expr (.Constant (.str _) _ _) _ => true
  | sc, .ret e, .Return (some x) _ => mE ck N sc e x
  | _, .ret0, .Return none _ => true
  | sc, .ifs c a b, .If x p q _ => mE ck N sc c x && mSs sc a p && mSs sc b q
  | sc, .fr t i b, .For y z p [] _ => mI ck N sc i z && mT N sc t y && (!isPairIt i || isTupT t) && mSs sc b p
  | sc, .wh _ c b, .While x p [] _ => mE ck N sc c x && mSs sc b p
  | _, .brk, .Break _ => true
  | _, .cnt, .Continue _ => true
  | _, .nev, _ => true
  | sc, .rs k x es, .Raise (some (.Call (.Name y _) xs [] _)) none _ => decide (y = x) && gl sc x && okName x && mEs ck N sc es xs && decide (es.length ≤ 1) && ck.isFree "super" && ck.mks.any fun m => decide (m.1 = k) && decide (m.2.1 = x) && decide (m.2.2.length = es.length)
  | sc, .tr b ks no x i hd, .Try p [.ExceptHandler (some (.Name y _)) nm [st] _] [] [] _ => decide (y = x) && gl sc x && okName x && nameOf N sc i nm && mSs sc b p && mHd ck N ks nm sc hd st &&
      ck.cls.any fun p => decide (p.2 = x) && (ks.all fun k => ck.sub.contains (k, p.1) && ck.cls.any fun q => decide (q.1 = k)) && no.all fun k => !ck.sub.contains (k, p.1) && ck.cls.any fun q => decide (q.1 = k)
  | _, _, _ => false
def mSs : Scope → List S → List Stmt → Bool
  | _, [], [] => true
  | sc, .zret i a b q e t c w :: r, s1 :: s2 :: xs => mZip ck N sc i a b s1 && mZr ck N sc i q e t c w s2 && mSs sc r xs
  | sc, .zfr i a b t body :: r, s1 :: .For tg (.Name y _) p [] _ :: xs => mZip ck N sc i a b s1 && decide (N[i]? = some y) && vis sc y && okName y && mT N sc t tg && isTupT t && mSs sc body p && mSs sc r xs
  | sc, s :: r, x :: xs => mS sc s x && mSs sc r xs
  | _, _, _ => false
end
end

def isZ : S → Bool
  | .zret _ _ _ _ _ _ _ _ => true
  | .zfr _ _ _ _ _ => true
  | _ => false
theorem mSs_cons {ck : Ck} {N : List Str} {sc : Scope} {s : S} {r : List S} {x : Stmt} {xs : List Stmt} (h : isZ s = false) : mSs ck N sc (s :: r) (x :: xs) = (mS ck N sc s x && mSs ck N sc r xs) := by
  cases s <;> first | rfl | cases h
theorem mSs_nil {ck : Ck} {N : List Str} {sc : Scope} {s : S} {r : List S} : mSs ck N sc (s :: r) [] = false := by
  cases s <;> rfl

/-! ### what is good -/
def FOk (K : PySem.W.Frag) (H0 : Hp) (D : Ends) (f : F) (m : List Addr) (G H : Hp) : Prop := match f with
  | .nx σ => ∀ τ, RS K m G σ τ → D.nx τ H
  | .rt v => ∀ u, RR K H0 m G H v u → D.rt u H
  | .bk σ => ∀ τ, RS K m G σ τ → D.bk τ H
  | .ct σ => ∀ τ, RS K m G σ τ → D.ct τ H
def GoodF (c : Cs) (K : PySem.W.Frag) (m : List Addr) (G H : Hp) (W : WX) (r : RF) (D : Ends) : Prop := match r with
  | .ok f h' => ∀ m' G' H', Stp m G H m' G' H' → Rel K m' h' G' → FOk K H D f m' G' H'
  | .exc x σ h' => ∀ m' G' H' C d τ, Stp m G H m' G' H' → Rel K m' h' G' → RS K m' G' σ τ → XAt c K m' G' x C d → W C d τ H'
  | .stuck => False
section
variable {c : Cs} {K : PySem.W.Frag} {m0 m m' : List Addr} {G0 H0 G H G' H' : Hp} {W : WX} {h : Hh} {σ : Sg} {τ : L2.St} {D D' : Ends} {α : Type}
theorem GoodF.of {r : R α} {k : α → Hh → RF} (s : Stp m0 G0 H0 m G H) (r0 : Rel K m h G) (rs : RS K m G σ τ) (g : GoodF c K m0 G0 H0 W (RF.of r σ k) D) :
    Good c K m G H (fun C d H' => W C d τ H') r fun a m2 G2 H2 => ∃ h2, r = .ok a h2 ∧ Rel K m2 h2 G2 ∧ GoodF c K m0 G0 H0 W (k a h2) D := by
  cases r with
  | ok a h1 => exact fun m2 G2 H2 s2 r2 => ⟨h1, rfl, r2, g⟩
  | exc x h1 => exact fun m2 G2 H2 C d s2 r2 xa => g m2 G2 H2 C d τ (s.trans s2) r2 (rs.step r0 s2) xa
  | stuck => exact g
theorem GoodF.ofN {r : R α} {k : α → Hh → RF} (g : GoodF c K m0 G0 H0 W (RF.of r.noX σ k) D) :
    Good c K m G H (fun _ _ _ => False) r fun a m2 G2 H2 => ∃ h2, r = .ok a h2 ∧ Rel K m2 h2 G2 ∧ GoodF c K m0 G0 H0 W (k a h2) D := by
  cases r with
  | ok a h1 => exact fun m2 G2 H2 s2 r2 => ⟨h1, rfl, r2, g⟩
  | exc x h1 => exact g.elim
  | stuck => exact g
theorem GoodF.later {r : RF} (s : Stp m0 G0 H0 m G H) (g : GoodF c K m0 G0 H0 W r D) : GoodF c K m G H W r D := by
  cases r with
  | stuck => exact g
  | exc x σ h1 => exact fun m2 G2 H2 C d τ s2 => g m2 G2 H2 C d τ (s.trans s2)
  | ok f h1 =>
    intro m2 G2 H2 s2 r2
    have q := g m2 G2 H2 (s.trans s2) r2
    cases f with
    | rt v => exact fun u qu => q u (RR.early s qu fun a ha => s2.mem ha)
    | nx _ => exact q
    | bk _ => exact q
    | ct _ => exact q
end
def bSt := 0
structure EnvS (ck : Ck) (c : Cs) (tb : Tb) (n : Nat) (X : Cx) (W : WX) : Prop where
  e1 : Env1 ck c tb n X W
  kind : X.env.scope.kind = .function
  own : PassesOwn (model X.prog X.w) X.A X.env X.xe
  locs : LocOk X X.env.scope
  stk : X.stack = X.env :: X.outer
  frm : X.env.frame = some X.env.locals
section
variable (ck : Ck) (c : Cs) (tb : Tb) (n : Nat)
def SS (s : S) : Prop := ∀ (X : Cx) (W : WX) (st : Stmt) (sc : Scope), EnvS ck c tb n X W → X.env.scope = sc → mS ck X.N sc s st = true → ∀ (m0 m : List Addr) (G0 H0 G H : Hp) (h : Hh) (σ : Sg) (τ : L2.St) (D : Ends), Stp m0 G0 H0 m G H → Rel X.K m h G → RS X.K m G σ τ →
  GoodF c X.K m0 G0 H0 W (ex (runB tb n) s σ h) D → bS X st D τ H
def SSs (s : List S) : Prop := ∀ (X : Cx) (W : WX) (st : List Stmt) (sc : Scope), EnvS ck c tb n X W → X.env.scope = sc → mSs ck X.N sc s st = true → ∀ (m0 m : List Addr) (G0 H0 G H : Hp) (h : Hh) (σ : Sg) (τ : L2.St) (D : Ends), Stp m0 G0 H0 m G H → Rel X.K m h G → RS X.K m G σ τ →
  GoodF c X.K m0 G0 H0 W (exs (runB tb n) s σ h) D → bSs X st D τ H
end
section
variable {ck : Ck} {c : Cs} {tb : Tb} {n : Nat}
theorem Env1.noW {X : Cx} {W : WX} (EN : Env1 ck c tb n X W) : Env1 ck c tb n X (fun _ _ _ _ => False) :=
  ⟨EN.calm, EN.room, EN.gd, EN.nd, fun u s' ⟨a, B, sI, pins, σ, H, cls, d, e, I, nb, up, sky, na, os, ag, w⟩ => w.elim, EN.free, EN.cons, EN.fns, EN.xc⟩

/-! ### stores -/
def bSet (X : Cx) : TSet := fun o i v H Q => ∃ t, PSet X t ∧ t o i v H Q
theorem psetB {X : Cx} : PSet X (bSet X) := fun pins s σ H o i v ov iv u Q I ro ri rv ⟨t, h, q⟩ => h pins s σ H o i v ov iv u Q I ro ri rv q
end
end Cw
end

section
set_option Elab.async false
set_option linter.all false
set_option maxRecDepth 100000
set_option maxHeartbeats 4000000
/-! Cw21: stores; statements without loops. -/
namespace Cw
open PySem PySem.Spec PyProof.Rows L2

section
variable {X : Cx} {m : List Addr} {G H : Hp} {h h' : Hh}
theorem set_ok (hu : X.A.units + 1 < cLine) {k : Nat} {i d : D} {a : Addr} {vi vd : V} {R : Hp → Prop} (e : putI k i d h = some h') (s : Sub G H) (r : Rel X.K m h G) (ha : m[k]? = some a) (qi : RD X.K m G i vi) (qd : RD X.K m G d vd)
    (t : ∀ m' G' H', Stp m G H m' G' H' → Rel X.K m' h' G' → R H') : bSet X (.ref a) vi vd H R := by
  have hm := List.mem_of_getElem? ha
  have hG : ∃ v, G a = some v := by rcases r.kind hm with ⟨_, e⟩ | ⟨_, e⟩ <;> exact ⟨_, e⟩
  unfold putI at e
  cases w : h[k]? with
  | none => rw [w] at e; cases e
  | some o =>
    rw [w] at e
    have hk := (List.getElem?_eq_some_iff.mp w).1
    cases o with
    | lst xs =>
      cases i with
      | int j =>
        obtain ⟨jj, e1, e2⟩ := map_some e
        subst e2
        obtain ⟨ws, g, l⟩ := r.lst w ha
        have q := RD.int_of qi
        subst q
        have st := Stp.write s hm (.lst (ws.set jj vd)) hG
        refine ⟨_, set_list, a, ws, j, jj, rfl, rfl, s _ _ g, by rw [← l.length]; exact e1, ?_⟩
        exact t m _ _ st (r.write s ha hk fun _ => ⟨_, upd_same, (RDs.set qd jj l).step r st⟩)
      | _ => cases e
    | dct xs =>
      obtain ⟨kk, e1, e2⟩ := bind_some e
      obtain ⟨hl, e3⟩ := if_some e2
      subst e3
      obtain ⟨ws, g, l⟩ := r.dct w ha
      have q := keyOf_rd qi e1
      subst q
      have st := Stp.write s hm (.dK (putK ws kk vd)) hG
      refine ⟨_, set_dict hu, a, _, rfl, DPut.k (s _ _ g) (by rw [← l.length, ← line_eq]; exact hl), ?_⟩
      exact t m _ _ st (r.write s ha hk fun _ => ⟨_, upd_same, (RKs.setK qd l).step r st⟩)
end

section
variable {ck : Ck} {c : Cs} {tb : Tb} {n : Nat}
abbrev NoE : WE3 := fun _ _ _ => False
theorem tgt_ok {t : I} {x : Expr} {X : Cx} {W : WX} (EN : EnvS ck c tb n X W) (hm : mG1 ck X.N X.env.scope t x = true) {m : List Addr} {G H : Hp} {h : Hh} {σ : Sg} {τ : L2.St} {d : D} {v : V} {R : L2.St → Hp → Prop} (r : Rel X.K m h G) (s : Sub G H) (rs : RS X.K m G σ τ) (q : RD X.K m G d v)
    (g : Good c X.K m G H NoE (tgt (runB tb n) t d σ h) fun σ' m' G' H' => ∀ τ', RS X.K m' G' σ' τ' → R τ' H') : bG X x v τ H R := by
  cases t with
  | v i =>
    cases x with
    | Name y p =>
      obtain ⟨h1, h2⟩ := ba (show (decide (X.N[i]? = some y) && loc X.env.scope y) = true from hm)
      have h1 : X.N[i]? = some y := of_decide_eq_true h1
      obtain ⟨l1, l2⟩ := EN.locs y h2
      exact ⟨_, pg_name EN.e1.nd h1 l1 l2, g m G H (.refl s) r _ (rs.put i q)⟩
    | _ => cases hm
  | ix o i =>
    cases x with
    | Subscript a b p =>
      obtain ⟨h1, h2⟩ := ba (show (mE ck X.N X.env.scope o a && mE ck X.N X.env.scope i b) = true from hm)
      have EN1 := EN.e1.noW
      have pl : ∀ v, assign (.Subscript a b p) X.env v = (do
          let ov ← holding [v] (eval a X.env)
          let iv ← holding [v, ov] (eval b X.env)
          standAt p
          holding [v, ov, iv] (setItem ov iv v)
          release [v, ov, iv] []) := by
        have := mE_plain i h2
        intro v
        cases b <;> first | rfl | cases this
      refine ⟨_, pg_sub peB peB psetB pl, ?_⟩
      have g0 : Good c X.K m G H NoE ((ev (runB tb n) o σ h).bind fun x h => (ev (runB tb n) i σ h).bind fun y h => match x, y with
        | .d (.ref n), .d y => (match putI n y d h with
          | some h => Cw.R.ok σ h
          | none => .stuck)
        | _, _ => .stuck) _ := g
      refine (all o).1 X _ a X.env.scope EN1 rfl h1 m G H h σ τ _ r s rs (Good.mono (Good.bind s g0) fun rv m1 G1 H1 s1 ⟨h1', _, r1, s01, g1⟩ ov q1 => ?_)
      refine (all i).1 X _ b X.env.scope EN1 rfl h2 m1 G1 H1 h1' σ τ _ r1 s1.sub2 (rs.step r s1) (Good.mono (Good.bindL s1 g1) fun rw' m2 G2 H2 s2 ⟨h2', _, r2, s02, g2⟩ iv q2 => ?_)
      cases rv with
      | d dd =>
        cases dd with
        | ref k =>
          cases rw' with
          | d y =>
            obtain ⟨aa, e1, ha⟩ := RD.ref_of (show RD X.K m1 G1 (.ref k) ov from q1)
            subst e1
            cases e3 : putI k y d h2' with
            | none => simp only [e3] at g2; exact g2.elim
            | some h3 =>
              simp only [e3] at g2
              refine set_ok (by have := EN.e1.units; omega) e3 s2.sub2 r2 (s2.get ha) q2 (q.step r s02) fun m' G' H' st r' => ?_
              exact g2 m' G' H' (s02.trans st) r' τ (rs.step r (s02.trans st))
          | _ => exact g2.elim
        | _ => exact g2.elim
      | _ => exact g2.elim
    | _ => cases hm
  | _ => cases x <;> cases hm
theorem mGs_plain {N : List Str} {sc : Scope} {env : Env} : ∀ {ts : List I} {xs : List Expr}, mGs ck N sc ts xs = true → (assignEach xs env).findIdx? (·.1) = none ∧ (assignEach xs env).length = xs.length ∧ ts.length = xs.length
  | [], [], _ => ⟨rfl, rfl, rfl⟩
  | t :: ts, x :: xs, h => by
    obtain ⟨h1, h2⟩ := ba (show (mG1 ck N sc t x && mGs ck N sc ts xs) = true from h)
    obtain ⟨i1, i2, i3⟩ := mGs_plain (env := env) h2
    have e : assignEach (x :: xs) env = (false, assign x env) :: assignEach xs env := by
      cases t with
      | v i => cases x <;> first | rfl | cases h1
      | ix o i => cases x <;> first | rfl | cases h1
      | _ => cases x <;> cases h1
    rw [e]
    exact ⟨by rw [List.findIdx?_cons, i1]; rfl, congrArg Nat.succ i2, congrArg Nat.succ i3⟩
  | [], _ :: _, h => by cases h
  | _ :: _, [], h => by cases h
theorem mG1_one {N : List Str} {sc : Scope} {env : Env} {t : I} {x : Expr} {r : List Expr} (h : mG1 ck N sc t x = true) : (assignEach (x :: r) env).map (·.2) = assign x env :: (assignEach r env).map (·.2) := by
  cases t with
  | v i => cases x <;> first | rfl | cases h
  | ix o i => cases x <;> first | rfl | cases h
  | _ => cases x <;> cases h
theorem tgts_len {cf : Bool → Nat → List D → Hh → R RV} : ∀ {ts : List I} {ds : List D} {σ : Sg} {h : Hh} {σ' : Sg} {h' : Hh}, tgts cf ts ds σ h = .ok σ' h' → ts.length = ds.length
  | [], [], _, _, _, _, _ => rfl
  | t :: ts, d :: ds, σ, h, σ', h', e => by
    have e : (tgt cf t d σ h).bind (fun σ h => tgts cf ts ds σ h) = .ok σ' h' := e
    cases e1 : tgt cf t d σ h with
    | ok s1 h1 => rw [e1] at e; exact congrArg Nat.succ (tgts_len e)
    | exc _ _ => rw [e1] at e; cases e
    | stuck => rw [e1] at e; cases e
  | [], _ :: _, _, _, _, _, e => by cases e
  | _ :: _, [], _, _, _, _, e => by cases e
theorem tgts_ok {X : Cx} {W : WX} (EN : EnvS ck c tb n X W) : ∀ {ts : List I} {xs : List Expr} (hm : mGs ck X.N X.env.scope ts xs = true) {m : List Addr} {G H : Hp} {h : Hh} {σ : Sg} {τ : L2.St} {ds : List D} {vs : List V} {R : L2.St → Hp → Prop} (r : Rel X.K m h G) (s : Sub G H) (rs : RS X.K m G σ τ) (q : RDs X.K m G ds vs)
    (g : Good c X.K m G H NoE (tgts (runB tb n) ts ds σ h) fun σ' m' G' H' => ∀ τ', RS X.K m' G' σ' τ' → R τ' H'), bGs X xs vs τ H R
  | [], [], _, m, G, H, h, σ, τ, [], _, R, r, s, rs, .nil, g => ⟨_, pgs_nil, rfl, g m G H (.refl s) r _ rs⟩
  | t :: ts, x :: xs, hm, m, G, H, h, σ, τ, d :: ds, _, R, r, s, rs, .cons (v := v) (vs := vs) q l, g => by
    obtain ⟨h1, h2⟩ := ba (show (mG1 ck X.N X.env.scope t x && mGs ck X.N X.env.scope ts xs) = true from hm)
    have g0 : Good c X.K m G H NoE ((tgt (runB tb n) t d σ h).bind fun σ h => tgts (runB tb n) ts ds σ h) _ := g
    refine ⟨_, pgs_cons pgB pgsB (mG1_one h1), v, vs, rfl, ?_⟩
    refine tgt_ok EN h1 r s rs q (Good.mono (Good.bind s g0) fun σ1 m1 G1 H1 s1 ⟨h1', _, r1, s01, g1⟩ τ1 rs1 => ?_)
    exact tgts_ok EN h2 r1 s1.sub2 rs1 (l.step r s1) (Good.later s01 g1)
  | [], [], _, _, _, _, _, _, _, _ :: _, _, _, _, _, _, _, g => g.elim
  | _ :: _, _ :: _, _, _, _, _, _, _, _, [], _, _, _, _, _, _, g => g.elim
  | [], _ :: _, hm, _, _, _, _, _, _, _, _, _, _, _, _, _, _ => by cases hm
  | _ :: _, [], hm, _, _, _, _, _, _, _, _, _, _, _, _, _, _ => by cases hm
/-- a store of data -/
theorem asg_ok {X : Cx} {W : WX} (EN : EnvS ck c tb n X W) {t : I} {x : Expr} (hm : mG ck X.N X.env.scope t x = true) {m : List Addr} {G H : Hp} {h : Hh} {σ : Sg} {τ : L2.St} {d : D} {v : V} {R : L2.St → Hp → Prop} (r : Rel X.K m h G) (s : Sub G H) (rs : RS X.K m G σ τ) (q : RD X.K m G d v) (nx : ∀ y h1, asg (runB tb n) t d σ h ≠ .exc y h1)
    (g : Good c X.K m G H NoE (asg (runB tb n) t d σ h) fun σ' m' G' H' => ∀ τ', RS X.K m' G' σ' τ' → R τ' H') : bG X x v τ H R := by
  cases t with
  | v i => exact tgt_ok EN (show mG1 ck X.N X.env.scope (.v i) x = true from hm) r s rs q g
  | ix o i => exact tgt_ok EN (show mG1 ck X.N X.env.scope (.ix o i) x = true from hm) r s rs q (by cases d <;> exact g)
  | tup ts =>
    cases x with
    | Tuple xs k p =>
      have hm : mGs ck X.N X.env.scope ts xs = true := hm
      cases d with
      | tup ds =>
        obtain ⟨a, vs, rfl, q1, l⟩ := RD.tup_of q
        obtain ⟨f1, f2, f3⟩ := mGs_plain (env := X.env) hm
        have g0 : Good c X.K m G H NoE (tgts (runB tb n) ts ds σ h) _ := g
        -- as many as there are
        cases hev : tgts (runB tb n) ts ds σ h with
        | stuck => rw [hev] at g0; exact g0.elim
        | exc y h1 => exact absurd hev (nx y h1)
        | ok σ1 h1 =>
          refine ⟨_, pg_tup EN.e1.calm pgsB rfl f1, a, vs, rfl, SqT.sub s q1, ?_, tgts_ok EN hm r s rs l g0⟩
          rw [f2, ← f3, ← l.length, tgts_len hev]
      | _ => exact g.elim
    | _ => cases hm
  | _ => cases hm
end
end Cw
end

section
set_option Elab.async false
set_option linter.all false
set_option maxRecDepth 100000
set_option maxHeartbeats 4000000
/-! Cw22: statements. -/
namespace Cw
open PySem PySem.Spec PyProof.Rows L2

section
variable {ck : Ck} {c : Cs} {tb : Tb} {n : Nat}
/-- a comprehension that is stored on its own line -/
theorem tl_all : ∀ (e : I) {X : Cx} {W : WX} {x y z : Expr} {ifs : List Expr} {a : Int} {scope : Scope} {pos : Pos} (EN : Env1 ck c tb n X W) (hm : mE ck X.N X.env.scope e (.ListComp x [⟨y, z, ifs, a⟩] scope pos) = true)
    {m : List Addr} {G H : Hp} {h : Hh} {σ : Sg} {τ : L2.St} {Q : VK} (r : Rel X.K m h G) (s : Sub G H) (rs : RS X.K m G σ τ)
    (g : Good c X.K m G H (fun C d H' => W C d τ H') (ev (runB tb n) e σ h) (fun rv m' G' H' => ∀ v, RR X.K H m' G' H' rv v → Q v H')),
    ∃ w, a = 0 ∧ BlkOk X.N X.env.scope scope w ∧ isWith z = true ∧ tLc (bI X y z) (iG X scope y) (iT X scope ifs) (iE X scope x) (w.map (·.2)) τ H Q
  | .lc e t i d w, X, W, x, y, z, ifs, a, scope, pos, EN, hm, m, G, H, h, σ, τ, Q, r, s, rs, g => ⟨w, tlc_ok (all e).1 (all i).2.2 (all d).2.1 EN hm r s rs g⟩
  | .mut e, X, W, x, y, z, ifs, a, scope, pos, EN, hm, m, G, H, h, σ, τ, Q, r, s, rs, g => tl_all e EN (ba (show (plainTest (.ListComp x [⟨y, z, ifs, a⟩] scope pos) && mE ck X.N X.env.scope e (.ListComp x [⟨y, z, ifs, a⟩] scope pos)) = true from hm)).2 r s rs (mut_good s g)
  | .v _, _, _, _, _, _, _, _, _, _, _, hm, _, _, _, _, _, _, _, _, _, _, _ => by cases hm
  | .c _, _, _, _, _, _, _, _, _, _, _, hm, _, _, _, _, _, _, _, _, _, _, _ => by cases hm
  | .g _ _, _, _, _, _, _, _, _, _, _, _, hm, _, _, _, _, _, _, _, _, _, _, _ => by cases hm
  | .no, _, _, _, _, _, _, _, _, _, _, hm, _, _, _, _, _, _, _, _, _, _, _ => by cases hm
  | .tup _, _, _, _, _, _, _, _, _, _, _, hm, _, _, _, _, _, _, _, _, _, _, _ => by cases hm
  | .lst _, _, _, _, _, _, _, _, _, _, _, hm, _, _, _, _, _, _, _, _, _, _, _ => by cases hm
  | .lrg _ _, _, _, _, _, _, _, _, _, _, _, hm, _, _, _, _, _, _, _, _, _, _, _ => by cases hm
  | .rcmp _ _ _, _, _, _, _, _, _, _, _, _, _, hm, _, _, _, _, _, _, _, _, _, _, _ => by cases hm
  | .dct _, _, _, _, _, _, _, _, _, _, _, hm, _, _, _, _, _, _, _, _, _, _, _ => by cases hm
  | .bin _ _ _, _, _, _, _, _, _, _, _, _, _, hm, _, _, _, _, _, _, _, _, _, _, _ => by cases hm
  | .neg _, _, _, _, _, _, _, _, _, _, _, hm, _, _, _, _, _, _, _, _, _, _, _ => by cases hm
  | .nt _, _, _, _, _, _, _, _, _, _, _, hm, _, _, _, _, _, _, _, _, _, _, _ => by cases hm
  | .and _, _, _, _, _, _, _, _, _, _, _, hm, _, _, _, _, _, _, _, _, _, _, _ => by cases hm
  | .or _, _, _, _, _, _, _, _, _, _, _, hm, _, _, _, _, _, _, _, _, _, _, _ => by cases hm
  | .cmp _ _ _, _, _, _, _, _, _, _, _, _, _, hm, _, _, _, _, _, _, _, _, _, _, _ => by cases hm
  | .chn _ _ _ _ _, _, _, _, _, _, _, _, _, _, _, hm, _, _, _, _, _, _, _, _, _, _, _ => by cases hm
  | .chn3 _ _ _ _ _ _ _, _, _, _, _, _, _, _, _, _, _, hm, _, _, _, _, _, _, _, _, _, _, _ => by cases hm
  | .ife _ _ _, _, _, _, _, _, _, _, _, _, _, hm, _, _, _, _, _, _, _, _, _, _, _ => by cases hm
  | .ix _ _, _, _, _, _, _, _, _, _, _, _, hm, _, _, _, _, _, _, _, _, _, _, _ => by cases hm
  | .sl _ _ _, _, _, _, _, _, _, _, _, _, _, hm, _, _, _, _, _, _, _, _, _, _, _ => by cases hm
  | .rev _, _, _, _, _, _, _, _, _, _, _, hm, _, _, _, _, _, _, _, _, _, _, _ => by cases hm
  | .call _ _ _ _ _ _, _, _, _, _, _, _, _, _, _, _, hm, _, _, _, _, _, _, _, _, _, _, _ => by cases hm
  | .bi _ _, _, _, _, _, _, _, _, _, _, _, hm, _, _, _, _, _, _, _, _, _, _, _ => by cases hm
  | .isi _ _, _, _, _, _, _, _, _, _, _, _, hm, _, _, _, _, _, _, _, _, _, _, _ => by cases hm
  | .mth _ _ _, _, _, _, _, _, _, _, _, _, _, hm, _, _, _, _, _, _, _, _, _, _, _ => by cases hm
  | .lc2 _ _ _ _ _ _ _, _, _, _, _, _, _, _, _, _, _, hm, _, _, _, _, _, _, _, _, _, _, _ => by
    obtain ⟨_, _, _, _, _, _, _, _, _, e0, _⟩ := mE_lc2Inv hm
    cases e0
  | .it _, _, _, _, _, _, _, _, _, _, _, hm, _, _, _, _, _, _, _, _, _, _, _ => by cases hm
  | .rng _, _, _, _, _, _, _, _, _, _, _, hm, _, _, _, _, _, _, _, _, _, _, _ => by cases hm
  | .enum _, _, _, _, _, _, _, _, _, _, _, hm, _, _, _, _, _, _, _, _, _, _, _ => by cases hm
  | .zip _ _, _, _, _, _, _, _, _, _, _, _, hm, _, _, _, _, _, _, _, _, _, _, _ => by cases hm
/-- one with two walks -/
theorem tl_all2 : ∀ (e : I) {X : Cx} {W : WX} {x y z y2 : Expr} {xs : List Expr} {p p2 : Pos} {scope : Scope} {pos : Pos} (EN : Env1 ck c tb n X W) (hm : mE ck X.N X.env.scope e (.ListComp x [⟨y, z, [], 0⟩, ⟨y2, .Call (.Name "range" p) xs [] p2, [], 0⟩] scope pos) = true)
    {m : List Addr} {G H : Hp} {h : Hh} {σ : Sg} {τ : L2.St} {Q : VK} (r : Rel X.K m h G) (s : Sub G H) (rs : RS X.K m G σ τ)
    (g : Good c X.K m G H (fun C d H' => W C d τ H') (ev (runB tb n) e σ h) (fun rv m' G' H' => ∀ v, RR X.K H m' G' H' rv v → Q v H')),
    ∃ (w w2 : List (Str × Nat)), BlkOk X.N X.env.scope scope w ∧ (∀ q ∈ w2, q.2 ∈ w.map (·.2)) ∧ isWith z = true ∧ isWith (.Call (.Name "range" p) xs [] p2) = true ∧ tLc2 (bI X y z) (iG X scope y) (iT X scope []) (iI X scope y2 (.Call (.Name "range" p) xs [] p2)) (iG X scope y2) (iT X scope []) (iE X scope x) (w.map (·.2)) (w2.map (·.2)) τ H Q
  | .lc2 e t i t2 es2 w w2, X, W, x, y, z, y2, xs, p, p2, scope, pos, EN, hm, m, G, H, h, σ, τ, Q, r, s, rs, g => by
    obtain ⟨x', y', z', y2', p', xs', p2', scope', pos', e0, k1, k2, k3, k4, k5, k6, k7, k8, k9⟩ := mE_lc2Inv hm
    cases e0
    exact ⟨w, w2, blkOk_by k1, k7, mI_with k2, mI_with k5, lc2_ok (all e).1 (all i).2.2 (allL es2).1 EN k1 k2 k3 k4 k5 k6 k8 k9 r s rs g⟩
  | .mut e, X, W, x, y, z, y2, xs, p, p2, scope, pos, EN, hm, m, G, H, h, σ, τ, Q, r, s, rs, g => tl_all2 e EN (ba (show (plainTest (.ListComp x [⟨y, z, [], 0⟩, ⟨y2, .Call (.Name "range" p) xs [] p2, [], 0⟩] scope pos) && mE ck X.N X.env.scope e (.ListComp x [⟨y, z, [], 0⟩, ⟨y2, .Call (.Name "range" p) xs [] p2, [], 0⟩] scope pos)) = true from hm)).2 r s rs (mut_good s g)
  | .v _, _, _, _, _, _, _, _, _, _, _, _, _, hm, _, _, _, _, _, _, _, _, _, _, _ => by cases hm
  | .c _, _, _, _, _, _, _, _, _, _, _, _, _, hm, _, _, _, _, _, _, _, _, _, _, _ => by cases hm
  | .g _ _, _, _, _, _, _, _, _, _, _, _, _, _, hm, _, _, _, _, _, _, _, _, _, _, _ => by cases hm
  | .no, _, _, _, _, _, _, _, _, _, _, _, _, hm, _, _, _, _, _, _, _, _, _, _, _ => by cases hm
  | .tup _, _, _, _, _, _, _, _, _, _, _, _, _, hm, _, _, _, _, _, _, _, _, _, _, _ => by cases hm
  | .lst _, _, _, _, _, _, _, _, _, _, _, _, _, hm, _, _, _, _, _, _, _, _, _, _, _ => by cases hm
  | .lrg _ _, _, _, _, _, _, _, _, _, _, _, _, _, hm, _, _, _, _, _, _, _, _, _, _, _ => by cases hm
  | .rcmp _ _ _, _, _, _, _, _, _, _, _, _, _, _, _, hm, _, _, _, _, _, _, _, _, _, _, _ => by cases hm
  | .dct _, _, _, _, _, _, _, _, _, _, _, _, _, hm, _, _, _, _, _, _, _, _, _, _, _ => by cases hm
  | .bin _ _ _, _, _, _, _, _, _, _, _, _, _, _, _, hm, _, _, _, _, _, _, _, _, _, _, _ => by cases hm
  | .neg _, _, _, _, _, _, _, _, _, _, _, _, _, hm, _, _, _, _, _, _, _, _, _, _, _ => by cases hm
  | .nt _, _, _, _, _, _, _, _, _, _, _, _, _, hm, _, _, _, _, _, _, _, _, _, _, _ => by cases hm
  | .and _, _, _, _, _, _, _, _, _, _, _, _, _, hm, _, _, _, _, _, _, _, _, _, _, _ => by cases hm
  | .or _, _, _, _, _, _, _, _, _, _, _, _, _, hm, _, _, _, _, _, _, _, _, _, _, _ => by cases hm
  | .cmp _ _ _, _, _, _, _, _, _, _, _, _, _, _, _, hm, _, _, _, _, _, _, _, _, _, _, _ => by cases hm
  | .chn _ _ _ _ _, _, _, _, _, _, _, _, _, _, _, _, _, hm, _, _, _, _, _, _, _, _, _, _, _ => by cases hm
  | .chn3 _ _ _ _ _ _ _, _, _, _, _, _, _, _, _, _, _, _, _, hm, _, _, _, _, _, _, _, _, _, _, _ => by cases hm
  | .ife _ _ _, _, _, _, _, _, _, _, _, _, _, _, _, hm, _, _, _, _, _, _, _, _, _, _, _ => by cases hm
  | .ix _ _, _, _, _, _, _, _, _, _, _, _, _, _, hm, _, _, _, _, _, _, _, _, _, _, _ => by cases hm
  | .sl _ _ _, _, _, _, _, _, _, _, _, _, _, _, _, hm, _, _, _, _, _, _, _, _, _, _, _ => by cases hm
  | .rev _, _, _, _, _, _, _, _, _, _, _, _, _, hm, _, _, _, _, _, _, _, _, _, _, _ => by cases hm
  | .call _ _ _ _ _ _, _, _, _, _, _, _, _, _, _, _, _, _, hm, _, _, _, _, _, _, _, _, _, _, _ => by cases hm
  | .bi _ _, _, _, _, _, _, _, _, _, _, _, _, _, hm, _, _, _, _, _, _, _, _, _, _, _ => by cases hm
  | .isi _ _, _, _, _, _, _, _, _, _, _, _, _, _, hm, _, _, _, _, _, _, _, _, _, _, _ => by cases hm
  | .mth _ _ _, _, _, _, _, _, _, _, _, _, _, _, _, hm, _, _, _, _, _, _, _, _, _, _, _ => by cases hm
  | .lc _ _ _ _ _, _, _, _, _, _, _, _, _, _, _, _, _, hm, _, _, _, _, _, _, _, _, _, _, _ => by cases hm
  | .it _, _, _, _, _, _, _, _, _, _, _, _, _, hm, _, _, _, _, _, _, _, _, _, _, _ => by cases hm
  | .rng _, _, _, _, _, _, _, _, _, _, _, _, _, hm, _, _, _, _, _, _, _, _, _, _, _ => by cases hm
  | .enum _, _, _, _, _, _, _, _, _, _, _, _, _, hm, _, _, _, _, _, _, _, _, _, _, _ => by cases hm
  | .zip _ _, _, _, _, _, _, _, _, _, _, _, _, _, hm, _, _, _, _, _, _, _, _, _, _, _ => by cases hm
theorem mE_comp {N : List Str} {sc : Scope} : ∀ (e : I) {x : Expr} {s : Scope}, mE ck N sc e x = true → compOf x = some s → (∃ x' y z ifs a scope pos, x = .ListComp x' [⟨y, z, ifs, a⟩] scope pos) ∨ ∃ x' y z y2 p xs p2 scope pos, x = .ListComp x' [⟨y, z, [], 0⟩, ⟨y2, .Call (.Name "range" p) xs [] p2, [], 0⟩] scope pos
  | .mut e, x, s, h, k => mE_comp e (ba (show (plainTest x && mE ck N sc e x) = true from h)).2 k
  | .lc _ _ _ _ _, x, s, h, k => .inl (mE_lcInv h)
  | .lc2 _ _ _ _ _ _ _, x, s, h, k => by
    obtain ⟨x, y, z, y2, p, xs, p2, scope, pos, e, _⟩ := mE_lc2Inv h
    exact .inr ⟨x, y, z, y2, p, xs, p2, scope, pos, e⟩
  | .v _, x, s, h, k => by cases x <;> first | exact Bool.noConfusion (show false = true from h) | cases k
  | .c _, x, s, h, k => by cases x <;> first | exact Bool.noConfusion (show false = true from h) | cases k
  | .g _ _, x, s, h, k => by cases x <;> first | exact Bool.noConfusion (show false = true from h) | cases k
  | .no, x, s, h, k => by cases x <;> first | exact Bool.noConfusion (show false = true from h) | cases k
  | .tup _, x, s, h, k => by cases x <;> first | exact Bool.noConfusion (show false = true from h) | cases k
  | .lst _, x, s, h, k => by cases x <;> first | exact Bool.noConfusion (show false = true from h) | cases k
  | .dct _, x, s, h, k => by cases x <;> first | exact Bool.noConfusion (show false = true from h) | cases k
  | .lrg _ _, x, s, h, k => by cases x <;> first | exact Bool.noConfusion (show false = true from h) | cases k
  | .rcmp _ _ _, x, s, h, k => by cases x <;> first | exact Bool.noConfusion (show false = true from h) | cases k
  | .bin _ _ _, x, s, h, k => by cases x <;> first | exact Bool.noConfusion (show false = true from h) | cases k
  | .neg _, x, s, h, k => by cases x <;> first | exact Bool.noConfusion (show false = true from h) | cases k
  | .nt _, x, s, h, k => by cases x <;> first | exact Bool.noConfusion (show false = true from h) | cases k
  | .and _, x, s, h, k => by cases x <;> first | exact Bool.noConfusion (show false = true from h) | cases k
  | .or _, x, s, h, k => by cases x <;> first | exact Bool.noConfusion (show false = true from h) | cases k
  | .cmp _ _ _, x, s, h, k => by cases x <;> first | exact Bool.noConfusion (show false = true from h) | cases k
  | .chn _ _ _ _ _, x, s, h, k => by cases x <;> first | exact Bool.noConfusion (show false = true from h) | cases k
  | .chn3 _ _ _ _ _ _ _, x, s, h, k => by cases x <;> first | exact Bool.noConfusion (show false = true from h) | cases k
  | .ife _ _ _, x, s, h, k => by cases x <;> first | exact Bool.noConfusion (show false = true from h) | cases k
  | .ix _ _, x, s, h, k => by cases x <;> first | exact Bool.noConfusion (show false = true from h) | cases k
  | .sl _ _ _, x, s, h, k => by cases x <;> first | exact Bool.noConfusion (show false = true from h) | cases k
  | .rev _, x, s, h, k => by cases x <;> first | exact Bool.noConfusion (show false = true from h) | cases k
  | .call _ _ _ _ _ _, x, s, h, k => by cases x <;> first | exact Bool.noConfusion (show false = true from h) | cases k
  | .bi _ _, x, s, h, k => by cases x <;> first | exact Bool.noConfusion (show false = true from h) | cases k
  | .isi _ _, x, s, h, k => by cases x <;> first | exact Bool.noConfusion (show false = true from h) | cases k
  | .mth _ _ _, x, s, h, k => by cases x <;> first | exact Bool.noConfusion (show false = true from h) | cases k
  | .it _, x, s, h, k => by cases x <;> first | exact Bool.noConfusion (show false = true from h) | cases k
  | .rng _, x, s, h, k => by cases x <;> first | exact Bool.noConfusion (show false = true from h) | cases k
  | .enum _, x, s, h, k => by cases x <;> first | exact Bool.noConfusion (show false = true from h) | cases k
  | .zip _ _, x, s, h, k => by cases x <;> first | exact Bool.noConfusion (show false = true from h) | cases k

theorem asg_nx {α : Type} {r : R α} {c : Cs} {K : PySem.W.Frag} {m0 : List Addr} {G0 H0 : Hp} {W : WX} {D : Ends} {σ : Sg} {k : α → Hh → RF} (g : GoodF c K m0 G0 H0 W (RF.of r.noX σ k) D) : ∀ y h1, r ≠ .exc y h1 := fun y h1 e => by
  rw [e] at g; exact g.elim
theorem ss_set {t e : I} : SS ck c tb n (.set t e) := by
  intro X W st sc EN hsc hm m0 m G0 H0 G H h σ τ D s0 r rs g
  subst hsc
  have ⟨tg, x, pos, est⟩ : ∃ tg x pos, st = .Assign [tg] x pos := by
    cases st with
    | Assign ts x p =>
      match ts, hm with
      | [tg], _ => exact ⟨tg, x, p, rfl⟩
      | [], hm => exact Bool.noConfusion (show false = true from hm)
      | _ :: _ :: _, hm => exact Bool.noConfusion (show false = true from hm)
    | _ => exact Bool.noConfusion (show false = true from hm)
  subst est
  obtain ⟨h1, h2⟩ := ba (show (mE ck X.N X.env.scope e x && mSet ck X.N X.env.scope t e tg x) = true from hm)
  have g0 : GoodF c X.K m0 G0 H0 W (RF.of (ev (runB tb n) e σ h) σ fun x h => match x.toD with
    | none => .stuck
    | some d => RF.of (asg (runB tb n) t d σ h).noX σ fun σ h => .ok (.nx σ) h) D := g
  have g1 := GoodF.of s0 r rs g0
  unfold mSet at h2
  by_cases sw : swB X.env.scope tg x = true
  · rw [if_pos sw] at h2
    cases t with
    | v i =>
      cases tg with
      | Name y py =>
        have h2 : X.N[i]? = some y := of_decide_eq_true h2
        -- the value is a comprehension
        have sw' := sw
        unfold swB at sw
        cases kc : compOf x with
        | none => rw [kc] at sw; cases sw
        | some scope0 =>
          rw [kc] at sw
          simp only [Bool.and_eq_true, beq_iff_eq] at sw
          have hl := sw.1.1
          have gN : Good c X.K m G H (fun C d H' => W C d τ H') (ev (runB tb n) e σ h) (fun rv m' G' H' => ∀ v, RR X.K H m' G' H' rv v → gName i v τ H' D.nx) := Good.mono g1 fun rv m1 G1 H1 s1 ⟨h', _, r1, g2⟩ v q => by
            cases hd : rv.toD with
            | none => simp only [hd] at g2; exact g2.elim
            | some d =>
              simp only [hd] at g2
              obtain ⟨G2, s2, r2, q2, _⟩ := RR.toD s1 r1 q hd
              have g3 : GoodF c X.K m0 G0 H0 W (.ok (.nx (σ.set i (some d))) h') D := g2
              exact g3 m1 G2 H1 (s0.trans s2) r2 _ ((rs.step r s2).put i q2)
          rcases mE_comp e h1 kc with ⟨x', y', z', ifs, a, scope, pos', ex⟩ | ⟨x', y', z', y2, p1, xs, p2, scope, pos', ex⟩
          rotate_left
          · subst ex
            obtain ⟨w, w2, ok, hv, hw, hw2, q⟩ := tl_all2 e (Q := fun v H1 => gName i v τ H1 D.nx) EN.e1 h1 r s0.sub2 rs gN
            exact ⟨_, ps_setLc2 (g := iG X scope y') (tt := iT X scope []) (wi1 := iI X scope y2 (.Call (.Name "range" p1) xs [] p2)) (g1 := iG X scope y2) (tt1 := iT X scope []) (te := iE X scope x') EN.e1.calm EN.e1.nd h2 hl (by rw [sw_ok EN.kind, sw']) piB ok (fun i hi => by
              obtain ⟨q, hq, rfl⟩ := List.mem_map.mp hi
              exact hv q hq) pgI ptI piI pgI ptI peI (fun _ => fold_pure hw) (fun _ _ => fold_pure hw2), q⟩
          subst ex
          refine ?_
          have fin : ∀ w, a = 0 → BlkOk X.N X.env.scope scope w → isWith z' = true → tLc (bI X y' z') (iG X scope y') (iT X scope ifs) (iE X scope x') (w.map (·.2)) τ H (fun v H1 => gName i v τ H1 D.nx) → bS X (.Assign [.Name y py] (.ListComp x' [⟨y', z', ifs, a⟩] scope pos') pos) D τ H := fun w e0 ok hw q => by
            subst e0
            exact ⟨_, ps_setLc (g := iG X scope y') (tt := iT X scope ifs) (te := iE X scope x') EN.e1.calm EN.e1.nd h2 hl (by rw [sw_ok EN.kind, sw']) piB ok pgI ptI peI (fun _ => fold_pure hw), q⟩
          obtain ⟨w, e0, ok, hw, q⟩ := tl_all e (Q := fun v H1 => gName i v τ H1 D.nx) EN.e1 h1 r s0.sub2 rs (Good.mono g1 fun rv m1 G1 H1 s1 ⟨h', _, r1, g2⟩ v q => by
            cases hd : rv.toD with
            | none => simp only [hd] at g2; exact g2.elim
            | some d =>
              simp only [hd] at g2
              obtain ⟨G2, s2, r2, q2, _⟩ := RR.toD s1 r1 q hd
              have g3 : GoodF c X.K m0 G0 H0 W (.ok (.nx (σ.set i (some d))) h') D := g2
              exact g3 m1 G2 H1 (s0.trans s2) r2 _ ((rs.step r s2).put i q2))
          exact fin w e0 ok hw q
      | _ => cases h2
    | _ => cases h2
  · rw [if_neg sw] at h2
    have sw : swB X.env.scope tg x = false := by simpa using sw
    by_cases sn : swN X.env.scope tg x = true
    · rw [if_pos sn] at h2
      have one : (assignEach [tg] X.env).map (·.2) = [assign tg X.env] := by
        cases t with
        | v i => exact mG1_one (r := []) (show mG1 ck X.N X.env.scope (.v i) tg = true from h2)
        | ix o i => exact mG1_one (r := []) (show mG1 ck X.N X.env.scope (.ix o i) tg = true from h2)
        | tup ts => cases tg <;> first | rfl | cases h2
        | _ => cases h2
      refine ⟨_, ps_asg peB pgB (by rw [show swapsWithSole [tg] x pos.line X.env = swapsWith x (some tg) pos.line X.env from rfl, sw_ok EN.kind, sw]) (swN_ok EN.kind sn) one, ?_⟩
      refine (all e).1 X W x X.env.scope EN.e1 rfl h1 m G H h σ τ _ r s0.sub2 rs (Good.mono g1 fun rv m1 G1 H1 s1 ⟨h', _, r1, g2⟩ v q => ?_)
      cases hd : rv.toD with
      | none => simp only [hd] at g2; exact g2.elim
      | some d =>
        simp only [hd] at g2
        obtain ⟨G2, s2, r2, q2, _⟩ := RR.toD s1 r1 q hd
        refine asg_ok EN h2 r2 s2.sub2 (rs.step r s2) q2 (asg_nx g2) (Good.mono (GoodF.ofN g2) fun σ' m3 G3 H3 s3 ⟨h3, _, r3, g3⟩ τ' rs3 => ?_)
        exact g3 m3 G3 H3 ((s0.trans s2).trans s3) r3 τ' rs3
    · rw [if_neg sn] at h2
      obtain ⟨h3, h2⟩ := ba h2
      have ⟨es, ee⟩ : ∃ es, e = .tup es := by
        cases e <;> first | exact ⟨_, rfl⟩ | cases h3
      subst ee
      rcases Bool.or_eq_true_iff.mp h2 with h2 | h2
      · have ⟨i, j, y, py, y2, py2, k1, p1, a, b, k2, p2, et, etg, ex⟩ : ∃ i j y py y2 py2 k1 p1 a b k2 p2, t = .tup [.v i, .v j] ∧ tg = .Tuple [.Name y py, .Name y2 py2] k1 p1 ∧ x = .Tuple [a, b] k2 p2 := by
          unfold mPar at h2
          split at h2 <;> first | exact ⟨_, _, _, _, _, _, _, _, _, _, _, _, rfl, rfl, rfl⟩ | cases h2
        subst et etg ex
        obtain ⟨h4, h6⟩ := ba (show ((decide (X.N[i]? = some y) && decide (X.N[j]? = some y2)) && parB X.env.scope y y2 py py2 a b) = true from h2)
        have k4 : X.N[i]? = some y := of_decide_eq_true (ba h4).1
        have k5 : X.N[j]? = some y2 := of_decide_eq_true (ba h4).2
        have h6' := h6
        unfold parB at h6'
        simp only [Bool.and_eq_true, Bool.not_eq_true', beq_iff_eq, decide_eq_false_iff_not] at h6'
        have hij : i ≠ j := fun z => h6'.1.1.1.1.2 (by subst z; exact Option.some.inj (k4.symm.trans k5))
        obtain ⟨hes, _⟩ := ba (show (mEs ck X.N X.env.scope es [a, b] && decide ([a, b].length ≤ 1000)) = true from h1)
        refine ⟨_, ps_par EN.e1.calm EN.e1.nd k4 k5 hij h6'.1.1.1.1.1.1.1 h6'.1.1.1.1.1.1.2 paB (par_ok EN.kind h6), ?_⟩
        have g2 : Good c X.K m G H (fun C d H' => W C d τ H') ((evs (runB tb n) es σ h).bind fun ds h => .ok (RV.d (.tup ds)) h) _ := g1
        refine (allL es).1 X W [a, b] X.env.scope EN.e1 rfl hes m G H h σ τ _ r s0.sub2 rs (Good.mono (Good.bind s0.sub2 g2) fun ds m1 G1 H1 s1 ⟨h', e1, r1, s01, g3⟩ vs l => ?_)
        obtain ⟨h3', e3, r3, g4⟩ := g3 m1 G1 H1 s01 r1
        have g5 : GoodF c X.K m0 G0 H0 W (RF.of (tgts (runB tb n) [.v i, .v j] ds σ h3').noX σ fun σ h => .ok (.nx σ) h) D := g4
        match ds, l with
        | [d1, d2], .cons (v := v1) q1 (.cons (v := v2) q2 .nil) =>
          have g6 : GoodF c X.K m0 G0 H0 W (.ok (.nx ((σ.set i (some d1)).set j (some d2))) h3') D := g5
          refine ⟨v1, v2, rfl, g6 m1 G1 H1 (s0.trans s01) r3 _ (((rs.step r s01).put i q1).put j q2)⟩
        | [], l => exact g5.elim
        | [_], l => exact g5.elim
        | _ :: _ :: _ :: _, l => exact g5.elim

      · have ⟨i, j, l0, y, py, y2, py2, y3, py3, k1, p1, a, b, d, k2, p2, et, etg, ex⟩ : ∃ i j l0 y py y2 py2 y3 py3 k1 p1 a b d k2 p2, t = .tup [.v i, .v j, .v l0] ∧ tg = .Tuple [.Name y py, .Name y2 py2, .Name y3 py3] k1 p1 ∧ x = .Tuple [a, b, d] k2 p2 := by
          unfold mPar3 at h2
          split at h2 <;> first | exact ⟨_, _, _, _, _, _, _, _, _, _, _, _, _, _, _, _, rfl, rfl, rfl⟩ | cases h2
        subst et etg ex
        obtain ⟨h4, h6⟩ := ba (show (((decide (X.N[i]? = some y) && decide (X.N[j]? = some y2)) && decide (X.N[l0]? = some y3)) && parB3 X.env.scope y y2 y3 py py2 py3 a b d) = true from h2)
        obtain ⟨h4, h7⟩ := ba h4
        have k4 : X.N[i]? = some y := of_decide_eq_true (ba h4).1
        have k5 : X.N[j]? = some y2 := of_decide_eq_true (ba h4).2
        have k6 : X.N[l0]? = some y3 := of_decide_eq_true h7
        have h6' := h6
        unfold parB3 at h6'
        simp only [Bool.and_eq_true, Bool.not_eq_true', beq_iff_eq, decide_eq_false_iff_not] at h6'
        obtain ⟨⟨⟨⟨⟨⟨⟨⟨⟨⟨⟨⟨u1, u2⟩, u3⟩, _⟩, _⟩, n1⟩, n2⟩, n3⟩, _⟩, _⟩, _⟩, _⟩, _⟩ := h6'
        have hij : i ≠ j := fun z => n1 (by subst z; exact Option.some.inj (k4.symm.trans k5))
        have hil : i ≠ l0 := fun z => n2 (by subst z; exact Option.some.inj (k4.symm.trans k6))
        have hjl : j ≠ l0 := fun z => n3 (by subst z; exact Option.some.inj (k5.symm.trans k6))
        obtain ⟨hes, _⟩ := ba (show (mEs ck X.N X.env.scope es [a, b, d] && decide ([a, b, d].length ≤ 1000)) = true from h1)
        refine ⟨_, ps_par3 EN.e1.calm EN.e1.nd k4 k5 k6 hij hil hjl u1 u2 u3 paB (par3_ok EN.kind h6), ?_⟩
        have g2 : Good c X.K m G H (fun C d H' => W C d τ H') ((evs (runB tb n) es σ h).bind fun ds h => .ok (RV.d (.tup ds)) h) _ := g1
        refine (allL es).1 X W [a, b, d] X.env.scope EN.e1 rfl hes m G H h σ τ _ r s0.sub2 rs (Good.mono (Good.bind s0.sub2 g2) fun ds m1 G1 H1 s1 ⟨h', e1, r1, s01, g3⟩ vs l => ?_)
        obtain ⟨h3', e3, r3, g4⟩ := g3 m1 G1 H1 s01 r1
        have g5 : GoodF c X.K m0 G0 H0 W (RF.of (tgts (runB tb n) [.v i, .v j, .v l0] ds σ h3').noX σ fun σ h => .ok (.nx σ) h) D := g4
        match ds, l with
        | [d1, d2, d3], .cons (v := v1) q1 (.cons (v := v2) q2 (.cons (v := v3) q3 .nil)) =>
          have g6 : GoodF c X.K m0 G0 H0 W (.ok (.nx (((σ.set i (some d1)).set j (some d2)).set l0 (some d3))) h3') D := g5
          refine ⟨v1, v2, v3, rfl, g6 m1 G1 H1 (s0.trans s01) r3 _ ((((rs.step r s01).put i q1).put j q2).put l0 q3)⟩
        | [], l => exact g5.elim
        | [_], l => exact g5.elim
        | [_, _], l => exact g5.elim
        | _ :: _ :: _ :: _ :: _, l => exact g5.elim
end
end Cw
end

section
set_option Elab.async false
set_option linter.all false
set_option maxRecDepth 100000
set_option maxHeartbeats 4000000
/-! Cw22x: raise; try with one except clause. -/
namespace Cw
open PySem PySem.Spec PyProof.Rows L2

theorem RS.gone {K : PySem.W.Frag} {m : List Addr} {G : Hp} {σ : Sg} {t : L2.St} (r : RS K m G σ t) (i : Nat) (v : Option V) : RS K m G (σ.set i none) (t.set i v) := by
  refine ⟨by rw [List.length_set, List.length_set, r.len], fun j e he => ?_⟩
  rw [set_get] at he ⊢
  by_cases h : i = j ∧ i < σ.length
  · rw [if_pos h] at he; cases he
  · rw [if_neg h] at he
    rw [if_neg fun z => h ⟨z.1, by rw [r.len]; exact z.2⟩]
    exact r.get j e he
theorem con_ok {ck : Ck} {X : Cx} {d : D} {x : Expr} {N : List Str} {sc : Scope} (hm : mE ck N sc (.c d) x = true) {K : PySem.W.Frag} {m : List Addr} {G H : Hp} {t : L2.St} {Q : VK} (q : ∀ v, RD K m G d v → Q v H) : bE X x t H Q := by
  cases x with
  | Constant cc j pos =>
    cases d <;> cases cc <;> first
      | exact Bool.noConfusion (show false = true from hm)
      | exact ⟨_, pe_non, q _ .non⟩
      | (obtain rfl := eq_of_beq (show (_ == _) = true from hm); exact ⟨_, pe_bl, q _ (.bl _)⟩)
      | (obtain rfl := of_decide_eq_true (show decide (_ = _) = true from hm); exact ⟨_, pe_int, q _ (.int _)⟩)
      | (obtain rfl := of_decide_eq_true (show decide (_ = _) = true from hm); exact ⟨_, pe_str, q _ (.str _)⟩)
  | _ => cases d <;> exact Bool.noConfusion (show false = true from hm)
theorem XAt.step {c : Cs} {K : PySem.W.Frag} {m m' : List Addr} {G H G' H' : Hp} {h : Hh} {x : Ex} {C : Value} {d : Option Addr} (r : Rel K m h G) (s : Stp m G H m' G' H') (q : XAt c K m G x C d) : XAt c K m' G' x C d := by
  refine ⟨q.cl, q.len, ?_⟩
  rcases q.fs with e | ⟨dx, fs, e, g, k⟩
  · exact .inl e
  · have n : dx ∉ m := fun hd => by rcases r.kind hd with ⟨_, z⟩ | ⟨_, z⟩ <;> · rw [g] at z; cases z
    refine .inr ⟨dx, fs, e, s.keepG dx _ g n, fun i f y h1 h2 => ?_⟩
    obtain ⟨v, h3, h4⟩ := k i f y h1 h2
    exact ⟨v, h3, h4.step r s⟩
/-- an except suite's surroundings -/
structure HX (ck : Ck) (c : Cs) (X : Cx) (sc : Scope) (ks : List Nat) (nm : Option Str) (y : Ex) (a : Addr) (d : Option Addr) (oe : Obj) : Prop where
  hsc : X.env.scope = sc
  un : X.A.units + 66 < cLine
  nd : X.N.Nodup
  free : ∀ x, ck.isFree x = true → X.mg x = none
  xc : XcF ck c X.prog X.K X.mg
  mem : y.c ∈ ks
  hz : Zc (.ref (c.cls y.c)) d oe
  hf : ∃ vs, oe.data = .fields vs
  locs : LocOk X X.env.scope
section
variable {ck : Ck} {c : Cs} {X : Cx} {sc : Scope} {ks : List Nat} {nm : Option Str} {y : Ex} {a : Addr} {d : Option Addr} {oe : Obj} {pn : List (Addr × Obj)}
/-- the exception lies at its name -/
def AtN (X : Cx) (nm : Option Str) (a : Addr) (t : L2.St) : Prop := ∀ n, nm = some n → ∃ i : Nat, X.N[i]? = some n ∧ t[i]? = some (some (V.ref a))
theorem exn_ok (E : HX ck c X sc ks nm y a d oe) {z : Str} {p : Pos} (h : isExn nm sc z = true) {t : L2.St} (at_ : AtN X nm a t) {H : Hp} {Q : VK} (q : Q (.ref a) H) : bE (X.suite a ((a, oe) :: pn)) (.Name z p) t H Q := by
  cases nm with
  | none => cases h
  | some n =>
    obtain ⟨h1, h3⟩ := ba (show ((decide (z = n) && okName z) && vis sc z) = true from h)
    obtain ⟨h1, h2⟩ := ba h1
    obtain rfl := of_decide_eq_true h1
    obtain ⟨i, e1, e2⟩ := at_ _ rfl
    exact ⟨_, pe_var (X := X.suite a ((a, oe) :: pn)) e1 (by show Vis X.env.scope z; rw [E.hsc]; exact vis_of h3) (okName_dbg h2) (okName_cd h2), _, e2, q⟩
theorem mark_units {A : Around} {v : Option Value} : (A.mark v).units = A.units := rfl
variable (ck c X sc ks nm y a d oe pn)
def SH (e : HE) : Prop := ∀ (x : Expr), mHE ck X.N ks nm sc e x = true → ∀ (m : List Addr) (G H : Hp) (h : Hh) (σ : Sg) (t : L2.St) (Q : VK), Rel X.K m h G → Sub G H → RS X.K m G σ t → XAt c X.K m G y (.ref (c.cls y.c)) d → AtN X nm a t →
  Good c X.K m G H (fun _ _ _ => False) (hev y e σ h) (fun rv m' G' H' => ∀ v, RR X.K H m' G' H' rv v → Q v H') → bE (X.suite a ((a, oe) :: pn)) x t H Q
def SHs (es : List HE) : Prop := ∀ (xs : List Expr), mHEs ck X.N ks nm sc es xs = true → ∀ (m : List Addr) (G H : Hp) (h : Hh) (σ : Sg) (t : L2.St) (Q : List V → Hp → Prop), Rel X.K m h G → Sub G H → RS X.K m G σ t → XAt c X.K m G y (.ref (c.cls y.c)) d → AtN X nm a t →
  Good c X.K m G H (fun _ _ _ => False) (hevs y es σ h) (fun ds m' G' H' => ∀ vs, RDs X.K m' G' ds vs → Q vs H') → bA (X.suite a ((a, oe) :: pn)) xs t H Q
variable {ck c X sc ks nm y a d oe pn}
theorem mHE_plain : ∀ (e : HE) {x : Expr}, mHE ck X.N ks nm sc e x = true → ∀ (env : Env) (xs : List Expr), starEach (x :: xs) env = (false, eval x env) :: starEach xs env := fun e x hm env xs => by
  cases x <;> first | rfl | (cases e <;> exact Bool.noConfusion (show false = true from hm))
theorem mHEs_len : ∀ {es : List HE} {xs : List Expr}, mHEs ck X.N ks nm sc es xs = true → es.length = xs.length
  | [], [], _ => rfl
  | _ :: es, _ :: xs, h => by
    obtain ⟨_, h2⟩ := ba (show (mHE ck X.N ks nm sc _ _ && mHEs ck X.N ks nm sc es xs) = true from h)
    rw [List.length_cons, List.length_cons, mHEs_len h2]
  | [], _ :: _, h => by cases h
  | _ :: _, [], h => by cases h
theorem hevs_len {y : Ex} : ∀ {es : List HE} {σ : Sg} {h : Hh} {ds : List D} {h' : Hh}, hevs y es σ h = .ok ds h' → ds.length = es.length
  | [], _, _, _, _, e => by cases e; rfl
  | x :: xs, σ, h, ds, h', e => by
    have e : ((hev y x σ h).bind fun x h => match x.toD with
      | none => R.stuck
      | some d => (hevs y xs σ h).bind fun ds h => .ok (d :: ds) h) = .ok ds h' := e
    cases q : hev y x σ h with
    | ok a h1 =>
      simp only [q, R.bind] at e
      cases q2 : a.toD with
      | none => simp only [q2] at e; cases e
      | some d =>
        simp only [q2] at e
        cases q3 : hevs y xs σ h1 with
        | ok b h2 => simp only [q3, R.bind] at e; cases e; rw [List.length_cons, List.length_cons, hevs_len q3]
        | exc _ _ => simp only [q3, R.bind] at e; cases e
        | stuck => simp only [q3, R.bind] at e; cases e
    | exc _ _ => simp only [q, R.bind] at e; cases e
    | stuck => simp only [q, R.bind] at e; cases e
mutual
theorem she (E : HX ck c X sc ks nm y a d oe) : ∀ e : HE, SH ck c X sc ks nm y a d oe pn e
  | .v i => by
    intro x hm m G H h σ t Q r s rs xa at_ g
    cases x with
    | Name x pos =>
      obtain ⟨h12, h3⟩ := ba (show ((decide (X.N[i]? = some x) && vis sc x) && okName x) = true from hm)
      obtain ⟨h1, h2⟩ := ba h12
      refine ⟨_, pe_var (X := X.suite a ((a, oe) :: pn)) (of_decide_eq_true h1) (by show Vis X.env.scope x; rw [E.hsc]; exact vis_of h2) (okName_dbg h3) (okName_cd h3), ?_⟩
      have g : Good c X.K m G H (fun _ _ _ => False) (match σ[i]? with | some (some d) => R.ok (RV.d d) h | _ => R.stuck) (fun rv m' G' H' => ∀ v, RR X.K H m' G' H' rv v → Q v H') := g
      split at g
      · rename_i d' e
        obtain ⟨v, e1, q⟩ := rs.get i d' e
        exact ⟨v, e1, g m G H (.refl s) r v q⟩
      · exact g.elim
    | _ => exact Bool.noConfusion (show false = true from hm)
  | .c k => by
    intro x hm m G H h σ t Q r s rs xa at_ g
    have hm : mE ck X.N sc (.c k) x = true := by cases x <;> exact hm
    exact con_ok hm fun v q => g m G H (.refl s) r v q
  | .fld j f => by
    intro x hm m G H h σ t Q r s rs xa at_ g
    cases x with
    | Attribute w gf pos =>
      cases w with
      | Name z p =>
        obtain ⟨h1, h3⟩ := ba (show ((decide (gf = f) && isExn nm sc z) && ks.all fun k => ck.mks.any fun m => decide (m.1 = k) && decide (m.2.2[j]? = some f)) = true from hm)
        obtain ⟨h1, h2⟩ := ba h1
        obtain rfl := of_decide_eq_true h1
        obtain ⟨mk, k1, k2⟩ := List.any_eq_true.mp (List.all_eq_true.mp h3 _ E.mem)
        obtain ⟨k2, k3⟩ := ba k2
        have k2 := of_decide_eq_true k2
        have k3 := of_decide_eq_true k3
        have fl := E.xc.fl mk k1
        rw [k2] at fl
        have g : Good c X.K m G H (fun _ _ _ => False) (match y.as[j]? with | some d => R.ok (RV.d d) h | none => R.stuck) (fun rv m' G' H' => ∀ v, RR X.K H m' G' H' rv v → Q v H') := g
        cases ey : y.as[j]? with
        | none => rw [ey] at g; exact g.elim
        | some dd =>
          rw [ey] at g
          rcases xa.fs with ⟨e, _⟩ | ⟨dx, fs, e, gx, kk⟩
          · rw [e] at ey; simp at ey
          · obtain ⟨v, h4, h5⟩ := kk j gf dd (by rw [fl]; exact k3) ey
            have nof := E.xc.nof mk k1 gf (List.mem_of_getElem? k3)
            rw [k2] at nof
            have isC : ∃ p ∈ ck.mks, p.1 = y.c := ⟨mk, k1, k2⟩
            obtain ⟨t1, q1⟩ := exn_ok (pn := pn) (p := p) E h2 at_ (H := H) (Q := fun v H1 => v = .ref a ∧ H1 = H) ⟨rfl, rfl⟩
            have xf := E.xc.fx mk k1
            rw [k2] at xf
            refine ⟨_, pe_xf xf nof E.hz E.hf peB (by rfl), ?_⟩
            exact exn_ok (pn := pn) (p := p) E h2 at_ ⟨rfl, rfl, dx, fs, v, e, s _ _ gx, h4, g m G H (.refl s) r v h5⟩
      | _ => exact Bool.noConfusion (show false = true from hm)
    | _ => exact Bool.noConfusion (show false = true from hm)
  | .isx ks' x => by
    intro w hm m G H h σ t Q r s rs xa at_ g
    have inv : ∃ p z p2 p3 pos, w = .Call (.Name "isinstance" p) [.Name z p2, .Name x p3] [] pos ∧ bltn ck sc ("isinstance" : Str) = true ∧ isExn nm sc z = true ∧ gl sc x = true ∧ okName x = true ∧
        (ck.cls.any fun p => decide (p.2 = x) && ks.all fun k => (ks'.contains k == ck.sub.contains (k, p.1)) && ck.cls.any fun q => decide (q.1 = k)) = true := by
      have shape : ∃ q p z p2 v p3 pos, w = .Call (.Name q p) [.Name z p2, .Name v p3] [] pos := by
        cases w with
        | Call fx xs kws pos =>
          cases fx with
          | Name q p =>
            match xs, kws, hm with
            | [.Name z p2, .Name v p3], [], _ => exact ⟨q, p, z, p2, v, p3, pos, rfl⟩
            | [], kws, hm => cases kws <;> exact Bool.noConfusion (show false = true from hm)
            | [u], kws, hm => cases kws <;> cases u <;> exact Bool.noConfusion (show false = true from hm)
            | u :: v :: z :: r, kws, hm => cases kws <;> cases u <;> cases v <;> exact Bool.noConfusion (show false = true from hm)
            | [u, v], k :: ks, hm => cases u <;> cases v <;> exact Bool.noConfusion (show false = true from hm)
            | [u, v], [], hm =>
              cases u <;> first | exact Bool.noConfusion (show false = true from hm) | (cases v <;> first | exact Bool.noConfusion (show false = true from hm) | exact ⟨_, _, _, _, _, _, _, rfl⟩)
          | _ => exact Bool.noConfusion (show false = true from hm)
        | _ => exact Bool.noConfusion (show false = true from hm)
      obtain ⟨q, p, z, p2, v, p3, pos, rfl⟩ := shape
      obtain ⟨hm, h7⟩ := ba (show ((((((decide (q = ("isinstance" : Str)) && bltn ck sc q) && isExn nm sc z) && decide (v = x)) && gl sc x) && okName x) && ck.cls.any fun p => decide (p.2 = x) && ks.all fun k => (ks'.contains k == ck.sub.contains (k, p.1)) && ck.cls.any fun q => decide (q.1 = k)) = true from hm)
      obtain ⟨hm, h6⟩ := ba hm
      obtain ⟨hm, h5⟩ := ba hm
      obtain ⟨hm, h4⟩ := ba hm
      obtain ⟨hm, h3⟩ := ba hm
      obtain ⟨h1, h2⟩ := ba hm
      obtain rfl := of_decide_eq_true h1
      obtain rfl := of_decide_eq_true h4
      exact ⟨p, z, p2, p3, pos, rfl, h2, h3, h5, h6, h7⟩
    obtain ⟨p, z, p2, p3, pos, rfl, h1, h2, h3, h4, h5⟩ := inv
    obtain ⟨cp, k1, k2⟩ := List.any_eq_true.mp h5
    obtain ⟨k2, k3⟩ := ba k2
    have k2 := of_decide_eq_true k2
    obtain ⟨k3, k4⟩ := ba (List.all_eq_true.mp k3 _ E.mem)
    obtain ⟨cq, k5, k6⟩ := List.any_eq_true.mp k4
    have k6 := of_decide_eq_true k6
    have k3 := eq_of_beq k3
    obtain ⟨b1, b2⟩ := ba h1
    have gi : Gl (X.suite a ((a, oe) :: pn)) "isinstance" := gl_of (X := X.suite a ((a, oe) :: pn)) E.hsc b1
    have kit := (E.xc.sub cq k5 cp k1).2
    rw [k6, ← k3] at kit
    have exc := (E.xc.at_ cq k5).1
    rw [k6] at exc
    have glo := E.xc.glo cp k1
    rw [k2] at glo
    have dd : d = none ∨ ∃ dx fs, d = some dx ∧ H dx = some (.xd fs) := by
      rcases xa.fs with ⟨_, e⟩ | ⟨dx, fs, e, gx, _⟩
      · exact .inl e
      · exact .inr ⟨dx, fs, e, s _ _ gx⟩
    refine ⟨_, pe_callB (Cx1.call_isD exc E.hz E.hf) gi (E.free _ b2) PyProof.Rows.boot_isinstance (pa_cons peB (pa_cons (pe_glob (v := .ref (c.cls cp.1)) (gl_of (X := X.suite a ((a, oe) :: pn)) E.hsc h3) glo rfl (okName_dbg h4)) pa_nil)) (by decide) (by decide), ?_⟩
    refine exn_ok (pn := pn) E h2 at_ ?_
    exact ⟨.ref (c.cls cp.1), .ref (c.cls cp.1), ks'.contains y.c, rfl, fun u r => r, kit, dd, g m G H (.refl s) r _ (.bl _)⟩
  | .tup es => by
    intro x hm m G H h σ t Q r s rs xa at_ g
    cases x with
    | Tuple xs k pos =>
      obtain ⟨h1, h2⟩ := ba (show (mHEs ck X.N ks nm sc es xs && decide (xs.length ≤ 1000)) = true from hm)
      refine ⟨_, pe_tup paB, ?_⟩
      refine shes E es xs h1 m G H h σ t _ r s rs xa at_ (Good.mono (Good.bind s g) fun ds m1 G1 H1 s1 ⟨h', e1, r1, _, g1⟩ vs l => ⟨le_line (by rw [← l.length, hevs_len e1, mHEs_len h1]; exact of_decide_eq_true h2), fun p np => ?_⟩)
      · exact g1 m1 _ _ (s1.trans (Stp.new1 s1.sub2 r1 np _)) (r1.new1 s1.sub2 np _) _ (.tup (SqT.of upd_same) (l.step r1 (Stp.new1 s1.sub2 r1 np _)))
    | _ => exact Bool.noConfusion (show false = true from hm)
  | .bin o e1 e2 => by
    intro x hm m G H h σ t Q r s rs xa at_ g
    cases x with
    | BinOp x p z pos =>
      obtain ⟨h12, h3⟩ := ba (show ((decide (p = opOf o) && mHE ck X.N ks nm sc e1 x) && mHE ck X.N ks nm sc e2 z) = true from hm)
      obtain ⟨h1, h2⟩ := ba h12
      obtain rfl := of_decide_eq_true h1
      refine ⟨_, pe_op opB peB peB, ?_⟩
      refine she E e1 x h2 m G H h σ t _ r s rs xa at_ (Good.mono (Good.bind s g) fun rv m1 G1 H1 s1 ⟨h1, _, r1, _, g1⟩ v q => ?_)
      refine she E e2 z h3 m1 G1 H1 h1 σ t _ r1 s1.sub2 (rs.step r s1) (xa.step r s1) at_ (Good.mono (Good.bindL s1 g1) fun rw' m2 G2 H2 s2 ⟨h2, _, r2, s02, g2⟩ w q2 => ?_)
      obtain ⟨z, ez, g3⟩ := Good.ofO g2
      exact bin_ok ez s2.sub2 r2 (RR.step r1 s2 q) q2 fun m3 G3 H3 s3 r3 v3 q3 => g3 m3 G3 H3 (Stp.trans (s1.trans s2) s3) r3 v3 (RR.early (s1.trans s2) q3 fun a ha => s3.mem ha)
    | _ => exact Bool.noConfusion (show false = true from hm)
  | .cmp o e1 e2 => by
    intro x hm m G H h σ t Q r s rs xa at_ g
    cases x with
    | Compare x ps ys pos =>
      match ps, ys, hm with
      | [p], [z], hm =>
        obtain ⟨h123, h4⟩ := ba (show (((decide (p = cOf o) && !(behindInMarks p z)) && mHE ck X.N ks nm sc e1 x) && mHE ck X.N ks nm sc e2 z) = true from hm)
        obtain ⟨h12, h3⟩ := ba h123
        obtain ⟨h1, h2⟩ := ba h12
        obtain rfl := of_decide_eq_true h1
        refine ⟨_, pe_cmpR opB peB peB (tru_f h2), ?_⟩
        refine she E e1 x h3 m G H h σ t _ r s rs xa at_ (Good.mono (Good.bind s g) fun rv m1 G1 H1 s1 ⟨h1, _, r1, _, g1⟩ v q => ?_)
        refine she E e2 z h4 m1 G1 H1 h1 σ t _ r1 s1.sub2 (rs.step r s1) (xa.step r s1) at_ (Good.mono (Good.bindL s1 g1) fun rw' m2 G2 H2 s2 ⟨h2, _, r2, s02, g2⟩ w q2 => ?_)
        obtain ⟨k, ez, g3⟩ := bmk g2
        exact cmp_ok (by have := E.un; show (X.A.mark _).units + _ < _; rw [mark_units]; omega) ez s2.sub2 r2 (RR.step r1 s2 q) q2 (g3 m2 G2 H2 s02 r2 _ (.bl _))
      | [], [], hm => exact Bool.noConfusion (show false = true from hm)
      | [], _ :: _, hm => exact Bool.noConfusion (show false = true from hm)
      | [_], [], hm => exact Bool.noConfusion (show false = true from hm)
      | [_], _ :: _ :: _, hm => exact Bool.noConfusion (show false = true from hm)
      | _ :: _ :: _, [], hm => exact Bool.noConfusion (show false = true from hm)
      | _ :: _ :: _, _ :: _, hm => exact Bool.noConfusion (show false = true from hm)
    | _ => exact Bool.noConfusion (show false = true from hm)
  | .and e1 e2 => by
    intro x hm m G H h σ t Q r s rs xa at_ g
    have inv : ∃ x1 x2 pos, x = .BoolOp .And [x1, x2] pos ∧ mHE ck X.N ks nm sc e1 x1 = true ∧ mHE ck X.N ks nm sc e2 x2 = true := by
      cases x with
      | BoolOp o xs pos =>
        cases o with
        | Or => exact Bool.noConfusion (show false = true from hm)
        | And =>
          match xs, hm with
          | [x1, x2], hm =>
            obtain ⟨h1, h2⟩ := ba (show (mHE ck X.N ks nm sc e1 x1 && mHE ck X.N ks nm sc e2 x2) = true from hm)
            exact ⟨x1, x2, pos, rfl, h1, h2⟩
          | [], hm => exact Bool.noConfusion (show false = true from hm)
          | [_], hm => exact Bool.noConfusion (show false = true from hm)
          | _ :: _ :: _ :: _, hm => exact Bool.noConfusion (show false = true from hm)
      | _ => exact Bool.noConfusion (show false = true from hm)
    obtain ⟨x1, x2, pos, rfl, h1, h2⟩ := inv
    refine ⟨_, pe_and peB (pe_one peB), ?_⟩
    refine she E e1 x1 h1 m G H h σ t _ r s rs xa at_ (Good.mono (Good.bind s g) fun rv m1 G1 H1 s1 ⟨h', _, r1, _, g1⟩ v q => ?_)
    split at g1
    · cases RD.bl_of q
      refine ⟨true, rfl, ?_⟩
      rw [if_pos rfl]
      exact she E e2 x2 h2 m1 G1 H1 h' σ t _ r1 s1.sub2 (rs.step r s1) (xa.step r s1) at_ (Good.mono (Good.later s1 g1) fun rv m2 G2 H2 s2 k v q => k v (RR.early s1 q fun a ha => s2.mem ha))
    · cases RD.bl_of q
      exact ⟨false, rfl, g1 m1 G1 H1 s1 r1 _ (.bl _)⟩
    · exact g1.elim
theorem shes (E : HX ck c X sc ks nm y a d oe) : ∀ es : List HE, SHs ck c X sc ks nm y a d oe pn es
  | [] => by
    intro xs hm m G H h σ t Q r s rs xa at_ g
    cases xs with
    | nil => exact ⟨_, pa_nil, g m G H (.refl s) r [] .nil⟩
    | cons _ _ => cases hm
  | e :: es => by
    intro xs hm m G H h σ t Q r s rs xa at_ g
    cases xs with
    | nil => cases hm
    | cons x xs =>
      obtain ⟨h1, h2⟩ := ba (show (mHE ck X.N ks nm sc e x && mHEs ck X.N ks nm sc es xs) = true from hm)
      refine ⟨_, pa_cons peB paB (mHE_plain e h1 _ _), ?_⟩
      refine she E e x h1 m G H h σ t _ r s rs xa at_ (Good.mono (Good.bind s g) fun rv m1 G1 H1 s1 ⟨h', _, r1, _, g1⟩ v q => ?_)
      cases hd : rv.toD with
      | none => rw [hd] at g1; exact g1.elim
      | some dd =>
        rw [hd] at g1
        obtain ⟨G2, s2, r2, q2, _⟩ := RR.toD s1 r1 q hd
        refine shes E es xs h2 m1 G2 H1 h' σ t _ r2 s2.sub2 (rs.step r s2) (xa.step r s2) at_ (Good.mono (Good.bindL s2 g1) fun ds m3 G3 H3 s3 ⟨h'', e3, r3, s03, g3⟩ vs l => ?_)
        exact g3 m3 G3 H3 s03 r3 (v :: vs) (.cons (q2.step r2 s3) l)
end
end
end Cw
end

section
set_option Elab.async false
set_option linter.all false
set_option maxRecDepth 100000
set_option maxHeartbeats 4000000
/-! Cw22y: raise, try as statements. -/
namespace Cw
open PySem PySem.Spec PyProof.Rows L2
section
variable {ck : Ck} {c : Cs} {X : Cx} {sc : Scope} {ks : List Nat} {nm : Option Str} {y : Ex} {a : Addr} {d : Option Addr} {oe : Obj} {pn : List (Addr × Obj)}
/-- what the suite does -/
theorem hd_ok (E : HX ck c X sc ks nm y a d oe) {hd : Hd} {st : Stmt} (hm : mHd ck X.N ks nm sc hd st = true) {m0 m : List Addr} {G0 H0 G H : Hp} {h : Hh} {σ : Sg} {t : L2.St} {W : WX} {D : Ends} (s0 : Stp m0 G0 H0 m G H) (r : Rel X.K m h G) (rs : RS X.K m G σ t) (xa : XAt c X.K m G y (.ref (c.cls y.c)) d) (at_ : AtN X nm a t)
    (g : GoodF c X.K m0 G0 H0 W (hdl y hd σ h) D) : bS (X.suite a ((a, oe) :: pn)) st D t H := by
  cases hd with
  | nev => exact g.elim
  | pass =>
    cases st with
    | Pass pos => exact ⟨_, ps_pass, g m G H s0 r t rs⟩
    | _ => exact Bool.noConfusion (show false = true from hm)
  | ret e =>
    cases st with
    | Return ox pos =>
      cases ox with
      | none => exact Bool.noConfusion (show false = true from hm)
      | some x =>
        refine ⟨_, ps_ret peB, ?_⟩
        refine she E e x (show mHE ck X.N ks nm sc e x = true from hm) m G H h σ t _ r s0.sub2 rs xa at_ (Good.mono (GoodF.ofN (σ := σ) (k := fun x h => .ok (.rt x) h) g) fun rv m1 G1 H1 s1 ⟨h', _, r1, g2⟩ v q => ?_)
        exact g2 m1 G1 H1 (s0.trans s1) r1 v (RR.early s0 q fun a ha => s1.mem ha)
    | _ => exact Bool.noConfusion (show false = true from hm)
  | set j e =>
    cases st with
    | Assign ts x pos =>
      have inv : ∃ z p, ts = [.Name z p] ∧ X.N[j]? = some z ∧ loc sc z = true ∧ mHE ck X.N ks nm sc e x = true := by
        match ts, hm with
        | [.Name z p], hm =>
          obtain ⟨h12, h3⟩ := ba (show ((decide (X.N[j]? = some z) && loc sc z) && mHE ck X.N ks nm sc e x) = true from hm)
          obtain ⟨h1, h2⟩ := ba h12
          exact ⟨z, p, rfl, of_decide_eq_true h1, h2, h3⟩
        | [], hm => exact Bool.noConfusion (show false = true from hm)
        | [u], hm => cases u <;> first | exact Bool.noConfusion (show false = true from hm) | (obtain ⟨h12, h3⟩ := ba (show (_ && mHE ck X.N ks nm sc e x) = true from hm); obtain ⟨h1, h2⟩ := ba h12; exact ⟨_, _, rfl, of_decide_eq_true h1, h2, h3⟩)
        | u :: _ :: _, hm => cases u <;> exact Bool.noConfusion (show false = true from hm)
      obtain ⟨z, p, rfl, h1, h2, h3⟩ := inv
      have sw : swapsWith x (some (.Name z p)) pos.line (X.suite a ((a, oe) :: pn)).env = pure false := by
        cases x <;> first | rfl | (cases e <;> exact Bool.noConfusion (show false = true from h3))
      have lo := E.locs z (by rw [E.hsc]; exact h2)
      refine ⟨_, ps_set (X := X.suite a ((a, oe) :: pn)) (i := j) E.nd h1 lo.1 peB sw lo.2, ?_⟩
      refine she E e x h3 m G H h σ t _ r s0.sub2 rs xa at_ (Good.mono (GoodF.ofN (σ := σ) (k := fun x h => match x.toD with
        | none => .stuck
        | some d => .ok (.nx (σ.set j (some d))) h) g) fun rv m1 G1 H1 s1 ⟨h', _, r1, g2⟩ v q => ?_)
      cases hd : rv.toD with
      | none => simp only [hd] at g2; exact g2.elim
      | some dd =>
        simp only [hd] at g2
        obtain ⟨G2, s2, r2, q2, _⟩ := RR.toD s1 r1 q hd
        exact g2 m1 G2 H1 (s0.trans s2) r2 _ ((rs.step r s2).put j q2)
    | _ => exact Bool.noConfusion (show false = true from hm)
end
section
variable {ck : Ck} {c : Cs} {tb : Tb} {n : Nat}
theorem ss_rs {k : Nat} {x : Str} {es : List I} : SS ck c tb n (.rs k x es) := by
  intro X W st sc EN hsc hm m0 m G0 H0 G H h σ τ D s0 r rs g
  subst hsc
  have inv : ∃ y p xs p2 pos, st = .Raise (some (.Call (.Name y p) xs [] p2)) none pos := by
    unfold mS at hm
    split at hm <;> first | contradiction | exact ⟨_, _, _, _, _, rfl⟩
  obtain ⟨y, p, xs, p2, pos, rfl⟩ := inv
  obtain ⟨hm, h7⟩ := ba (show ((((((decide (y = x) && gl X.env.scope x) && okName x) && mEs ck X.N X.env.scope es xs) && decide (es.length ≤ 1)) && ck.isFree "super") && ck.mks.any fun m => decide (m.1 = k) && decide (m.2.1 = x) && decide (m.2.2.length = es.length)) = true from hm)
  obtain ⟨hm, h6⟩ := ba hm
  obtain ⟨hm, h5⟩ := ba hm
  obtain ⟨hm, h4⟩ := ba hm
  obtain ⟨hm, h3⟩ := ba hm
  obtain ⟨h1, h2⟩ := ba hm
  obtain rfl := of_decide_eq_true h1
  have h5 := of_decide_eq_true h5
  obtain ⟨mk, k1, k2⟩ := List.any_eq_true.mp h7
  obtain ⟨k2, k4⟩ := ba k2
  obtain ⟨k2, k3⟩ := ba k2
  have k2 := of_decide_eq_true k2
  have k3 := of_decide_eq_true k3
  have k4 := of_decide_eq_true k4
  obtain ⟨mk1, mk2, fl⟩ := mk
  dsimp only at k2 k3 k4
  subst k2 k3
  have efl := EN.e1.xc.fl _ k1
  have hms := EN.e1.free _ h6
  have gl_ : Gl X mk2 := gl_of rfl h2
  cases es with
  | nil =>
    obtain rfl := List.eq_nil_of_length_eq_zero k4
    obtain rfl : xs = [] := List.eq_nil_of_length_eq_zero (mEs_len h4).symm
    obtain ⟨e1, e2⟩ := EN.e1.xc.mk0 _ _ k1
    refine ⟨_, ps_raise EN.e1.calm EN.e1.takes (Cx1.pmk0 e2 hms (EN.e1.room.mono (by omega)) gl_ e1 (okName_dbg h3)), ?_⟩
    have g : GoodF c X.K m0 G0 H0 W (.exc ⟨mk1, []⟩ σ h) D := g
    exact g m G H _ none τ s0 r rs ⟨rfl, by rw [efl]; rfl, .inl ⟨rfl, rfl⟩⟩
  | cons e es' =>
    obtain rfl : es' = [] := by
      cases es' with
      | nil => rfl
      | cons _ _ => exact absurd h5 (by simp)
    obtain ⟨f, rfl⟩ : ∃ f, fl = [f] := List.length_eq_one_iff.mp k4
    obtain ⟨w, rfl⟩ : ∃ w, xs = [w] := List.length_eq_one_iff.mp (mEs_len h4).symm
    obtain ⟨e1, e2⟩ := EN.e1.xc.mk1 _ _ _ k1
    have hE : mE ck X.N X.env.scope e w = true := (ba (show (mE ck X.N X.env.scope e w && mEs ck X.N X.env.scope [] []) = true from h4)).1
    refine ⟨_, ps_raise EN.e1.calm EN.e1.takes (Cx1.pmk1 e2 hms (EN.e1.room.mono (by omega)) gl_ e1 paB (okName_dbg h3) (star_of (mE_plain e hE))), ?_⟩
    refine (allL [e]).1 X W [w] X.env.scope EN.e1 rfl h4 m G H h σ τ _ r s0.sub2 rs (Good.mono (GoodF.of (k := fun ds h => .exc ⟨mk1, ds⟩ σ h) s0 r rs g) fun ds m1 G1 H1 s1 ⟨h', e3, r1, g2⟩ vs l => ?_)
    have hl := evs_len e3
    obtain ⟨d0, v0, ed, ev_, q0⟩ : ∃ d0 v0, ds = [d0] ∧ vs = [v0] ∧ RD X.K m1 G1 d0 v0 := by
      cases l with
      | nil => exact absurd hl (by simp)
      | cons q0 l' =>
        cases l' with
        | cons _ _ => exact absurd hl (by simp)
        | nil => exact ⟨_, _, rfl, rfl, q0⟩
    subst ed ev_
    refine ⟨v0, rfl, fun dx nx => ?_⟩
    have st1 := Stp.new1 s1.sub2 r1 nx (.xd [(f, v0)])
    exact g2 m1 _ _ _ (some dx) τ ((s0.trans s1).trans st1) (r1.new1 s1.sub2 nx _) ((rs.step r s1).step r1 st1) ⟨rfl, by rw [efl]; rfl, .inr ⟨dx, [(f, v0)], rfl, upd_same, fun i g z h1 h2 => by
          rw [efl] at h1
          cases i with
          | zero =>
            simp at h1 h2
            subst h1 h2
            exact ⟨v0, by simp [List.lookup], q0.step r1 st1⟩
          | succ i => simp at h1⟩⟩
theorem offF_good {K : PySem.W.Frag} {m : List Addr} {G H : Hp} {W : WX} {r : RF} {D : Ends} {i : Nat} (g : GoodF c K m G H W (offF (some i) r) D) : GoodF c K m G H W r { nx := fun σ' H' => D.nx (σ'.set i none) H', rt := D.rt, bk := fun σ' H' => D.bk (σ'.set i none) H', ct := fun σ' H' => D.ct (σ'.set i none) H' } := by
  cases r with
  | stuck => exact g
  | exc x σ h => exact g
  | ok f h =>
    cases f with
    | nx σ => exact fun m' G' H' st r τ rs => g m' G' H' st r _ (rs.gone i none)
    | rt v => exact g
    | bk σ => exact fun m' G' H' st r τ rs => g m' G' H' st r _ (rs.gone i none)
    | ct σ => exact fun m' G' H' st r τ rs => g m' G' H' st r _ (rs.gone i none)
theorem set_at {τ : L2.St} {σ : Sg} {i : Nat} {v : Option V} (l : σ.length = τ.length) (h : i < σ.length) : (τ.set i v)[i]? = some v := List.getElem?_set_self (by rw [← l]; exact h)
theorem offF_none {r : RF} : offF none r = r := by
  cases r with
  | ok f h => cases f <;> rfl
  | _ => rfl
theorem ss_tr {b : List S} {ks no : List Nat} {x : Str} {i : Option Nat} {hd : Hd} (hb : SSs ck c tb n b) : SS ck c tb n (.tr b ks no x i hd) := by
  intro X W st sc EN hsc hm m0 m G0 H0 G H h σ τ D s0 r rs g
  subst hsc
  have inv : ∃ p y p1 nm st1 p2 pos, st = .Try p [.ExceptHandler (some (.Name y p1)) nm [st1] p2] [] [] pos := by
    unfold mS at hm
    split at hm <;> first | contradiction | exact ⟨_, _, _, _, _, _, _, rfl⟩
  obtain ⟨p, y, p1, nm, st1, p2, pos, rfl⟩ := inv
  obtain ⟨hm, h7⟩ := ba (show ((((((decide (y = x) && gl X.env.scope x) && okName x) && nameOf X.N X.env.scope i nm) && mSs ck X.N X.env.scope b p) && mHd ck X.N ks nm X.env.scope hd st1) &&
      ck.cls.any fun p => decide (p.2 = x) && (ks.all fun k => ck.sub.contains (k, p.1) && ck.cls.any fun q => decide (q.1 = k)) && no.all fun k => !ck.sub.contains (k, p.1) && ck.cls.any fun q => decide (q.1 = k)) = true from hm)
  obtain ⟨hm, h6⟩ := ba hm
  obtain ⟨hm, h5⟩ := ba hm
  obtain ⟨hm, h4⟩ := ba hm
  obtain ⟨hm, h3⟩ := ba hm
  obtain ⟨h1, h2⟩ := ba hm
  obtain rfl := of_decide_eq_true h1
  obtain ⟨cp, k1, k2⟩ := List.any_eq_true.mp h7
  obtain ⟨k2, k4⟩ := ba k2
  obtain ⟨k2, k3⟩ := ba k2
  have k2 := of_decide_eq_true k2
  have glo := EN.e1.xc.glo cp k1
  rw [k2] at glo
  have nms : Names X y (.ref (c.cls cp.1)) := ⟨gl_of rfl h2, okName_dbg h3, .inl glo⟩
  -- the body's surroundings
  have EB : ∀ (W' : WX) (pn : List (Addr × Obj)) (xe : Value → Shared → Prop), Takes (X.tr pn xe) W' → PassesOwn (model X.prog X.w) X.A X.env xe → EnvS ck c tb n (X.tr pn xe) W' := fun W' pn xe tk ow =>
    ⟨⟨EN.e1.calm, EN.e1.room, EN.e1.gd, EN.e1.nd, tk, EN.e1.free, EN.e1.cons, EN.e1.fns, EN.e1.xc⟩, EN.kind, ow, EN.locs, EN.stk, EN.frm⟩
  have g : GoodF c X.K m0 G0 H0 W (catchF ks no i hd (exs (runB tb n) b σ h)) D := g
  have yes : ∀ k ∈ ks, PySem.W.exmOne X.K (.ref (c.cls k)) (.ref (c.cls cp.1)) = some true := fun k hk => by
    obtain ⟨a1, a2⟩ := ba (List.all_eq_true.mp k3 k hk)
    obtain ⟨cq, a3, a4⟩ := List.any_eq_true.mp a2
    have a4 := of_decide_eq_true a4
    have := (EN.e1.xc.sub cq a3 cp k1).1
    rw [a4] at this
    rw [this, a1]
  have nay : ∀ k ∈ no, PySem.W.exmOne X.K (.ref (c.cls k)) (.ref (c.cls cp.1)) = some false := fun k hk => by
    obtain ⟨a1, a2⟩ := ba (List.all_eq_true.mp k4 k hk)
    obtain ⟨cq, a3, a4⟩ := List.any_eq_true.mp a2
    have a4 := of_decide_eq_true a4
    have := (EN.e1.xc.sub cq a3 cp k1).1
    rw [a4] at this
    rw [this]
    cases q : ck.sub.contains (k, cp.1) with
    | false => rfl
    | true => rw [q] at a1; cases a1
  have EH : ∀ (y : Ex) (a : Addr) (d : Option Addr) (oe : Obj), y.c ∈ ks → Zc (.ref (c.cls y.c)) d oe → (∃ vs, oe.data = .fields vs) → HX ck c X X.env.scope ks nm y a d oe := fun y a d oe e1 e2 e3 =>
    ⟨rfl, by have := EN.e1.units; omega, EN.e1.nd, EN.e1.free, EN.e1.xc, e1, e2, e3, EN.locs⟩
  -- what an exception of the body meets
  have meet : ∀ (W' : WX), (∀ (y : Ex) (σ1 : Sg) (h1 : Hh), exs (runB tb n) b σ h = .exc y σ1 h1 → ∀ m' G' H' d τ', Stp m0 G0 H0 m' G' H' → Rel X.K m' h1 G' → RS X.K m' G' σ1 τ' → XAt c X.K m' G' y (.ref (c.cls y.c)) d → W' (.ref (c.cls y.c)) d τ' H') → GoodF c X.K m0 G0 H0 W' (exs (runB tb n) b σ h) D := fun W' hW => by
    cases e : exs (runB tb n) b σ h with
    | stuck => rw [e] at g; exact g
    | ok f h1 => rw [e] at g; exact g
    | exc y σ1 h1 =>
      intro m' G' H' C d τ' s1 r1 rs1 xa
      obtain rfl := xa.cl
      exact hW y σ1 h1 e m' G' H' d τ' s1 r1 rs1 xa
  have suit : ∀ (D : Ends) (y : Ex) (σ1 : Sg) (h1 : Hh) (m' : List Addr) (G' H' : Hp) (d : Option Addr) (τ' : L2.St) (a : Addr), y.c ∈ ks → Stp m0 G0 H0 m' G' H' → Rel X.K m' h1 G' → RS X.K m' G' σ1 τ' → XAt c X.K m' G' y (.ref (c.cls y.c)) d → AtN X nm a τ' → GoodF c X.K m0 G0 H0 W (hdl y hd σ1 h1) D → ∀ oe pn, Zc (.ref (c.cls y.c)) d oe → (∃ vs, oe.data = .fields vs) → bSs (X.suite a ((a, oe) :: pn)) [st1] D τ' H' :=
    fun D y σ1 h1 m' G' H' d τ' a hk s1 r1 rs1 xa at_ g1 oe pn hz hf => ⟨_, pss_cons psB pss_nil, hd_ok (pn := pn) (EH y a d oe hk hz hf) h6 s1 r1 rs1 xa at_ g1⟩
  have runs : ∀ (W' : WX) (D : Ends) (σ2 : L2.St) (H2 : Hp) (pn : List (Addr × Obj)) (xe : Value → Shared → Prop), Takes (X.tr pn xe) W' → PassesOwn (model X.prog X.w) X.A X.env xe → PSs (X.tr pn xe) p (fun D σ H => ∀ pn xe, Takes (X.tr pn xe) W' → PassesOwn (model X.prog X.w) X.A X.env xe → bSs (X.tr pn xe) p D σ H) := fun W' D σ2 H2 pn xe tk ow => ⟨fun pins s σ H D I h => by
    obtain ⟨t, ht, q⟩ := h pn xe tk ow
    exact ht.run pins s σ H D I q⟩
  have suit2 : ∀ (a : Addr) (oe : Obj) (cls : Value) (d : Option Addr) (pn : List (Addr × Obj)), Zc cls d oe → (∃ vs, oe.data = .fields vs) → PSs (X.suite a ((a, oe) :: pn)) [st1] (fun D σ H => ∀ oe pn, Zc cls d oe → (∃ vs, oe.data = .fields vs) → bSs (X.suite a ((a, oe) :: pn)) [st1] D σ H) := fun a oe cls d pn hz hf => ⟨fun pins s σ H D I h => by
    obtain ⟨t, ht, q⟩ := h oe pn hz hf
    exact ht.run pins s σ H D I q⟩
  have at0 : ∀ y σ1 h1, exs (runB tb n) b σ h = .exc y σ1 h1 → GoodF c X.K m0 G0 H0 W (if ks.contains y.c = true then (if inI i σ1 = true then offF i (hdl y hd (off i σ1) h1) else .stuck) else if no.contains y.c = true then .exc y σ1 h1 else .stuck) D := fun y σ1 h1 e => by
    rw [e] at g
    exact g
  cases i with
  | none =>
    cases nm with
    | some _ => cases h4
    | none =>
      refine ⟨_, ps_try_only (Wout := W) EN.stk EN.frm nms EN.e1.takes (tb := fun W' D σ H => ∀ pn xe, Takes (X.tr pn xe) W' → PassesOwn (model X.prog X.w) X.A X.env xe → bSs (X.tr pn xe) p D σ H) (ts := fun a cls d D σ H => ∀ oe pn, Zc cls d oe → (∃ vs, oe.data = .fields vs) → bSs (X.suite a ((a, oe) :: pn)) [st1] D σ H) (fun W' pn xe tk ow => runs W' D τ H pn xe tk ow) suit2, ?_⟩
      intro pn xe tk ow
      refine hb (X.tr pn xe) _ p X.env.scope (EB _ pn xe tk ow) rfl h5 m0 m G0 H0 G H h σ τ D s0 r rs (meet _ fun y σ1 h1 e m' G' H' d τ' s1 r1 rs1 xa => ?_)
      have g1 := at0 y σ1 h1 e
      by_cases q : ks.contains y.c = true
      · rw [if_pos q, if_pos (show inI none σ1 = true from rfl), offF_none] at g1
        have q' := List.contains_iff_mem.mp q
        exact ⟨true, yes _ q', fun _ a na => suit D y σ1 h1 m' G' H' d τ' a q' s1 r1 rs1 xa (fun _ z => by cases z) g1, fun z => by cases z⟩
      · rw [if_neg q] at g1
        by_cases q2 : no.contains y.c = true
        · rw [if_pos q2] at g1
          exact ⟨false, nay _ (List.contains_iff_mem.mp q2), (fun z => by cases z), fun _ => g1 m' G' H' _ d τ' s1 r1 rs1 xa⟩
        · rw [if_neg q2] at g1; exact g1.elim
  | some i =>
    cases nm with
    | none => cases h4
    | some nn =>
      obtain ⟨n1, n2⟩ := ba (show (decide (X.N[i]? = some nn) && (X.env.scope.names.lookup nn == some .local)) = true from h4)
      have n1 := of_decide_eq_true n1
      have n2 : X.env.kindOf nn = some .local := by have := n2; show X.env.scope.names.lookup nn = some .local; simpa using this
      refine ⟨_, ps_try_as (Wout := W) EN.stk EN.frm EN.e1.nd n1 n2 nms EN.e1.takes (tb := fun W' D σ H => ∀ pn xe, Takes (X.tr pn xe) W' → PassesOwn (model X.prog X.w) X.A X.env xe → bSs (X.tr pn xe) p D σ H) (ts := fun a cls d D σ H => ∀ oe pn, Zc cls d oe → (∃ vs, oe.data = .fields vs) → bSs (X.suite a ((a, oe) :: pn)) [st1] D σ H) (fun W' pn xe tk ow => runs W' D τ H pn xe tk ow) suit2, ?_⟩
      intro pn xe tk ow
      refine hb (X.tr pn xe) _ p X.env.scope (EB _ pn xe tk ow) rfl h5 m0 m G0 H0 G H h σ τ D s0 r rs (meet _ fun y σ1 h1 e m' G' H' d τ' s1 r1 rs1 xa => ?_)
      have g1 := at0 y σ1 h1 e
      by_cases q : ks.contains y.c = true
      · rw [if_pos q] at g1
        by_cases q3 : inI (some i) σ1 = true
        · rw [if_pos q3] at g1
          have q' := List.contains_iff_mem.mp q
          have q3 : i < σ1.length := of_decide_eq_true q3
          exact ⟨true, yes _ q', fun _ a na => suit _ y (σ1.set i none) h1 m' G' H' d (τ'.set i (some (.ref a))) a q' s1 r1 (rs1.gone i _) xa (fun z hz => by cases hz; exact ⟨i, n1, set_at rs1.len q3⟩) (offF_good g1), fun z => by cases z⟩
        · rw [if_neg q3] at g1; exact g1.elim
      · rw [if_neg q] at g1
        by_cases q2 : no.contains y.c = true
        · rw [if_pos q2] at g1
          exact ⟨false, nay _ (List.contains_iff_mem.mp q2), (fun z => by cases z), fun _ => g1 m' G' H' _ d τ' s1 r1 rs1 xa⟩
        · rw [if_neg q2] at g1; exact g1.elim
end
end Cw
end

section
set_option Elab.async false
set_option linter.all false
set_option maxRecDepth 100000
set_option maxHeartbeats 4000000
/-! Cw23: the other statements; every statement. -/
namespace Cw
open PySem PySem.Spec PyProof.Rows L2

section
variable {ck : Ck} {c : Cs} {tb : Tb} {n : Nat}
def augR (o : Bop) (σ : Sg) (i : Nat) (a b : Int) (h : Hh) : RF := match o with
  | .add => .ok (.nx (σ.set i (some (.int (a + b))))) h
  | .sub => .ok (.nx (σ.set i (some (.int (a - b))))) h
  | _ => .stuck
theorem ss_aug {i : Nat} {o : Bop} {e : I} : SS ck c tb n (.aug i o e) := by
  intro X W st sc EN hsc hm m0 m G0 H0 G H h σ τ D s0 r rs g
  subst hsc
  have ⟨y, p, q, x, pos, est⟩ : ∃ y p q x pos, st = .AugAssign (.Name y p) q x pos := by
    cases st with
    | AugAssign tg q x pos =>
      cases tg with
      | Name y p => exact ⟨_, _, _, _, _, rfl⟩
      | _ => exact Bool.noConfusion (show false = true from hm)
    | _ => exact Bool.noConfusion (show false = true from hm)
  subst est
  obtain ⟨hm, h5⟩ := ba (show ((((decide (X.N[i]? = some y) && loc X.env.scope y) && decide (q = opOf o)) && isAug o) && mE ck X.N X.env.scope e x) = true from hm)
  obtain ⟨hm, h4⟩ := ba hm
  obtain ⟨hm, h3⟩ := ba hm
  obtain ⟨h1, h2⟩ := ba hm
  have h1 : X.N[i]? = some y := of_decide_eq_true h1
  have h3 : q = opOf o := of_decide_eq_true h3
  subst h3
  obtain ⟨l1, l2⟩ := EN.locs y h2
  have g0 : GoodF c X.K m0 G0 H0 W (match σ[i]? with
    | some (some (.int x)) => RF.of (ev (runB tb n) e σ h) σ fun y h => match y with
      | .d (.int y) => augR o σ i x y h
      | _ => .stuck
    | _ => .stuck) D := g
  cases hv : σ[i]? with
  | none => rw [hv] at g0; exact g0.elim
  | some od =>
    rw [hv] at g0
    cases od with
    | none => exact g0.elim
    | some d =>
      cases d with
      | int a =>
        have g1 := GoodF.of s0 r rs g0
        obtain ⟨v0, ev0, q0⟩ := rs.get i _ hv
        have := RD.int_of q0
        subst this
        have go : ∀ (f : Int → Int → Int), PIp X (opOf o) (ipI f) → (∀ (b : Int) (h' : Hh), augR o σ i a b h' = RF.ok (.nx (σ.set i (some (.int (f a b))))) h') → bS X (.AugAssign (.Name y p) (opOf o) x pos) D τ H := fun f hp hf => by
          refine ⟨_, ps_aug EN.e1.nd h1 l1 peB hp l2, _, ev0, ?_⟩
          refine (all e).1 X W x X.env.scope EN.e1 rfl h5 m G H h σ τ _ r s0.sub2 rs (Good.mono g1 fun rv m1 G1 H1 s1 ⟨h', _, r1, g2⟩ v q => ?_)
          cases rv with
          | d dd =>
            cases dd with
            | int b =>
              have q := RD.int_of q
              subst q
              refine ⟨a, b, rfl, rfl, ?_⟩
              have g3 : GoodF c X.K m0 G0 H0 W (augR o σ i a b h') D := g2
              rw [hf b h'] at g3
              exact g3 m1 G1 H1 (s0.trans s1) r1 _ ((rs.step r s1).put i (.int _))
            | _ => exact g2.elim
          | _ => exact g2.elim
        cases o with
        | add => exact go _ ip_add fun _ _ => rfl
        | sub => exact go _ ip_sub fun _ _ => rfl
        | _ => cases h4
      | _ => exact g0.elim
theorem ss_exp {e : I} : SS ck c tb n (.exp e) := by
  intro X W st sc EN hsc hm m0 m G0 H0 G H h σ τ D s0 r rs g
  subst hsc
  cases st with
  | Expr x pos =>
    obtain ⟨h1, h2⟩ := ba (show ((compOf x).isNone && mE ck X.N X.env.scope e x) = true from hm)
    refine ⟨_, ps_expr peB (sw_none h1), ?_⟩
    refine (all e).1 X W x X.env.scope EN.e1 rfl h2 m G H h σ τ _ r s0.sub2 rs (Good.mono (GoodF.of (k := fun _ h => .ok (.nx σ) h) s0 r rs g) fun rv m1 G1 H1 s1 ⟨h', _, r1, g2⟩ v q => ?_)
    have g3 : GoodF c X.K m0 G0 H0 W (.ok (.nx σ) h') D := g2
    exact g3 m1 G1 H1 (s0.trans s1) r1 _ (rs.step r s1)
  | _ => exact Bool.noConfusion (show false = true from hm)
theorem ss_ret {e : I} : SS ck c tb n (.ret e) := by
  intro X W st sc EN hsc hm m0 m G0 H0 G H h σ τ D s0 r rs g
  subst hsc
  cases st with
  | Return ox pos =>
    cases ox with
    | none => exact Bool.noConfusion (show false = true from hm)
    | some x =>
      refine ⟨_, ps_ret peB, ?_⟩
      refine (all e).1 X W x X.env.scope EN.e1 rfl (show mE ck X.N X.env.scope e x = true from hm) m G H h σ τ _ r s0.sub2 rs (Good.mono (GoodF.of (k := fun x h => .ok (.rt x) h) s0 r rs g) fun rv m1 G1 H1 s1 ⟨h', _, r1, g2⟩ v q => ?_)
      have g3 : GoodF c X.K m0 G0 H0 W (.ok (.rt rv) h') D := g2
      exact g3 m1 G1 H1 (s0.trans s1) r1 v (RR.early s0 q fun a ha => s1.mem ha)
  | _ => exact Bool.noConfusion (show false = true from hm)
theorem ss_ret0 : SS ck c tb n .ret0 := by
  intro X W st sc EN hsc hm m0 m G0 H0 G H h σ τ D s0 r rs g
  cases st with
  | Return ox pos =>
    cases ox with
    | none => exact ⟨_, ps_retN, g m G H s0 r .non RD.non⟩
    | some x => exact Bool.noConfusion (show false = true from hm)
  | _ => exact Bool.noConfusion (show false = true from hm)
theorem ss_pass : SS ck c tb n .pass := by
  intro X W st sc EN hsc hm m0 m G0 H0 G H h σ τ D s0 r rs g
  have q : D.nx τ H := g m G H s0 r τ rs
  cases st with
  | Pass pos => exact ⟨_, ps_pass, q⟩
  | Expr x pos =>
    cases x with
    | Constant k j p =>
      cases k with
      | str y => exact ⟨_, ps_doc, q⟩
      | _ => exact Bool.noConfusion (show false = true from hm)
    | _ => exact Bool.noConfusion (show false = true from hm)
  | _ => exact Bool.noConfusion (show false = true from hm)
theorem ss_brk : SS ck c tb n .brk := by
  intro X W st sc EN hsc hm m0 m G0 H0 G H h σ τ D s0 r rs g
  cases st with
  | Break pos => exact ⟨_, ps_break, g m G H s0 r τ rs⟩
  | _ => exact Bool.noConfusion (show false = true from hm)
theorem ss_nev : SS ck c tb n .nev := by
  intro X W st sc EN hsc hm m0 m G0 H0 G H h σ τ D s0 r rs g
  exact g.elim
theorem ss_bad {s : S} (h : ∀ N sc x, mS ck N sc s x = true → False) : SS ck c tb n s := by
  intro X W st sc EN hsc hm
  exact (h _ _ _ hm).elim
theorem ss_cnt : SS ck c tb n .cnt := by
  intro X W st sc EN hsc hm m0 m G0 H0 G H h σ τ D s0 r rs g
  cases st with
  | Continue pos => exact ⟨_, ps_continue, g m G H s0 r τ rs⟩
  | _ => exact Bool.noConfusion (show false = true from hm)
theorem ss_ifs {e : I} {a b : List S} (ha : SSs ck c tb n a) (hb : SSs ck c tb n b) : SS ck c tb n (.ifs e a b) := by
  intro X W st sc EN hsc hm m0 m G0 H0 G H h σ τ D s0 r rs g
  subst hsc
  cases st with
  | If x p q pos =>
    obtain ⟨hm, h3⟩ := ba (show ((mE ck X.N X.env.scope e x && mSs ck X.N X.env.scope a p) && mSs ck X.N X.env.scope b q) = true from hm)
    obtain ⟨h1, h2⟩ := ba hm
    refine ⟨_, ps_if ptB pssB pssB, ?_⟩
    have g0 : GoodF c X.K m0 G0 H0 W (RF.of (ev (runB tb n) e σ h) σ fun x h => match x with
      | .d (.bl true) => exs (runB tb n) a σ h
      | .d (.bl false) => exs (runB tb n) b σ h
      | _ => .stuck) D := g
    refine (all e).2.1 X W x X.env.scope EN.e1 rfl h1 m G H h σ τ _ r s0.sub2 rs (Good.mono (GoodF.of s0 r rs g0) fun rv m1 G1 H1 s1 ⟨h', _, r1, g2⟩ => ?_)
    cases rv with
    | d dd =>
      cases dd with
      | bl k =>
        refine ⟨k, rfl, ?_⟩
        cases k with
        | true => rw [if_pos rfl]; exact ha X W p X.env.scope EN rfl h2 m0 m1 G0 H0 G1 H1 h' σ τ D (s0.trans s1) r1 (rs.step r s1) g2
        | false => rw [if_neg (by decide)]; exact hb X W q X.env.scope EN rfl h3 m0 m1 G0 H0 G1 H1 h' σ τ D (s0.trans s1) r1 (rs.step r s1) g2
      | _ => exact g2.elim
    | _ => exact g2.elim
  | _ => exact Bool.noConfusion (show false = true from hm)
theorem sss_nil : SSs ck c tb n [] := by
  intro X W st sc EN hsc hm m0 m G0 H0 G H h σ τ D s0 r rs g
  cases st with
  | nil => exact ⟨_, pss_nil, g m G H s0 r τ rs⟩
  | cons _ _ => cases hm
theorem sss_cons {s : S} {ss : List S} (hz : isZ s = false) (hs : SS ck c tb n s) (hr : SSs ck c tb n ss) : SSs ck c tb n (s :: ss) := by
  intro X W st sc EN hsc hm m0 m G0 H0 G H h σ τ D s0 r rs g
  cases st with
  | nil => rw [mSs_nil] at hm; cases hm
  | cons x xs =>
    rw [mSs_cons hz] at hm
    obtain ⟨h1, h2⟩ := ba hm
    refine ⟨_, pss_cons psB pssB, ?_⟩
    refine hs X W x sc EN hsc h1 m0 m G0 H0 G H h σ τ _ s0 r rs ?_
    have g0 : GoodF c X.K m0 G0 H0 W (match ex (runB tb n) s σ h with
      | .ok (.nx σ) h => exs (runB tb n) ss σ h
      | x => x) D := g
    cases e : ex (runB tb n) s σ h with
    | stuck => rw [e] at g0; exact g0.elim
    | exc y σ1 h1 => rw [e] at g0; exact g0
    | ok f h1 =>
      rw [e] at g0
      cases f with
      | nx σ1 =>
        intro m1 G1 H1 s1 r1 τ1 rs1
        exact hr X W xs sc EN hsc h2 m0 m1 G0 H0 G1 H1 h1 σ1 τ1 D s1 r1 rs1 g0
      | rt v => exact g0
      | bk v => exact g0
      | ct v => exact g0
theorem ss_wh {k : Nat} {e : I} {b : List S} (hb : SSs ck c tb n b) : SS ck c tb n (.wh k e b) := by
  intro X W st sc EN hsc hm m0 m G0 H0 G H h σ τ D s0 r rs g
  subst hsc
  have ⟨x, p, pos, est⟩ : ∃ x p pos, st = .While x p [] pos := by
    cases st with
    | While x p q pos =>
      cases q with
      | nil => exact ⟨_, _, _, rfl⟩
      | cons _ _ => exact Bool.noConfusion (show false = true from hm)
    | _ => exact Bool.noConfusion (show false = true from hm)
  subst est
  obtain ⟨h1, h2⟩ := ba (show (mE ck X.N X.env.scope e x && mSs ck X.N X.env.scope b p) = true from hm)
  refine ⟨_, ps_while EN.own ptB pssB, ?_⟩
  let Iv : Nat → L2.St → Hp → Prop := fun k τ2 H2 => ∃ (m2 : List Addr) (G2 : Hp) (h2 : Hh) (σ2 : Sg), Stp m0 G0 H0 m2 G2 H2 ∧ Rel X.K m2 h2 G2 ∧ RS X.K m2 G2 σ2 τ2 ∧ GoodF c X.K m0 G0 H0 W (whL (ev (runB tb n) e) (exs (runB tb n) b) k σ2 h2) D
  refine ⟨Iv, ⟨k, m, G, h, σ, s0, r, rs, g⟩, fun k τ2 H2 ⟨m2, G2, h2', σ2, st, r2, rs2, g2⟩ => ?_⟩
  cases k with
  | zero => exact g2.elim
  | succ k =>
    have g3 : GoodF c X.K m0 G0 H0 W (RF.of (ev (runB tb n) e σ2 h2') σ2 fun x h => match x with
      | .d (.bl true) => (match exs (runB tb n) b σ2 h with
        | .ok (.nx σ) h => whL (ev (runB tb n) e) (exs (runB tb n) b) k σ h
        | .ok (.ct σ) h => whL (ev (runB tb n) e) (exs (runB tb n) b) k σ h
        | .ok (.bk σ) h => .ok (.nx σ) h
        | .ok (.rt v) h => .ok (.rt v) h
        | .exc x σ h => .exc x σ h
        | .stuck => .stuck)
      | .d (.bl false) => .ok (.nx σ2) h
      | _ => .stuck) D := g2
    refine (all e).2.1 X W x X.env.scope EN.e1 rfl h1 m2 G2 H2 h2' σ2 τ2 _ r2 st.sub2 rs2 (Good.mono (GoodF.of st r2 rs2 g3) fun rv m3 G3 H3 s3 ⟨h3, _, r3, g4⟩ => ?_)
    cases rv with
    | d dd =>
      cases dd with
      | bl q =>
        refine ⟨q, rfl, ?_⟩
        cases q with
        | false =>
          rw [if_neg (by decide)]
          have g5 : GoodF c X.K m0 G0 H0 W (.ok (.nx σ2) h3) D := g4
          exact g5 m3 G3 H3 (st.trans s3) r3 τ2 (rs2.step r2 s3)
        | true =>
          rw [if_pos rfl]
          refine ⟨Iv k, fun τ' H' iv => ⟨k, Nat.lt_succ_self _, iv⟩, ?_⟩
          refine hb X W p X.env.scope EN rfl h2 m0 m3 G0 H0 G3 H3 h3 σ2 τ2 _ (st.trans s3) r3 (rs2.step r2 s3) ?_
          have g5 : GoodF c X.K m0 G0 H0 W (match exs (runB tb n) b σ2 h3 with
            | .ok (.nx σ) h => whL (ev (runB tb n) e) (exs (runB tb n) b) k σ h
            | .ok (.ct σ) h => whL (ev (runB tb n) e) (exs (runB tb n) b) k σ h
            | .ok (.bk σ) h => .ok (.nx σ) h
            | .ok (.rt v) h => .ok (.rt v) h
            | .exc x σ h => .exc x σ h
            | .stuck => .stuck) D := g4
          cases e5 : exs (runB tb n) b σ2 h3 with
          | stuck => rw [e5] at g5; exact g5.elim
          | exc y σ1 h1 => rw [e5] at g5; exact g5
          | ok f h1 =>
            rw [e5] at g5
            cases f with
            | nx σ1 => exact fun m1 G1 H1 s1 r1 τ1 rs1 => ⟨m1, G1, h1, σ1, s1, r1, rs1, g5⟩
            | ct σ1 => exact fun m1 G1 H1 s1 r1 τ1 rs1 => ⟨m1, G1, h1, σ1, s1, r1, rs1, g5⟩
            | rt v => exact g5
            | bk σ1 => exact g5
      | _ => exact g4.elim
    | _ => exact g4.elim
/-- the turns of a loop -/
theorem turns_for {t : I} {b : List S} (hb : SSs ck c tb n b) {X : Cx} {W : WX} {y : Expr} {p : List Stmt} (EN : EnvS ck c tb n X W) (h2 : mT X.N X.env.scope t y = true) (h4 : mSs ck X.N X.env.scope b p = true)
    {m1 : List Addr} {G1 H1 : Hp} {h1 : Hh} {σ : Sg} {τ : L2.St} {D : Ends} {src : Src} {xs : List Cw.D} {J : It} (s1 : Sub G1 H1) (r1 : Rel X.K m1 h1 G1) (rs1 : RS X.K m1 G1 σ τ) (jw : JW X.K src xs J m1 G1 H1)
    (g1' : GoodF c X.K m1 G1 H1 W (forL t (exs (runB tb n) b) src xs 0 σ h1) { D with rt := D.rt }) :
    ∃ W : Nat → Nat → L2.St → Hp → Prop, (∃ m, W 0 m τ H1) ∧ ∀ i m σ H, W i m σ H → (J.stop i H ∧ D.nx σ H) ∨ (J.go i H ∧ ∃ N : L2.St → Hp → Prop, (∀ σ' H', N σ' H' → ∃ m', m' < m ∧ W (i + 1) m' σ' H') ∧ ∀ x H', J.yld i H x H' → bG X y x σ H' fun σ2 H2 => bSs X p { D with nx := N, ct := N, bk := D.nx } σ2 H2) := by
  let Iv : Nat → Nat → L2.St → Hp → Prop := fun i k τ2 Hc => k = xs.length - i ∧ i ≤ xs.length ∧ ∃ (m2 : List Addr) (G2 : Hp) (h2 : Hh) (σ2 : Sg), Stp m1 G1 H1 m2 G2 Hc ∧ Rel X.K m2 h2 G2 ∧ RS X.K m2 G2 σ2 τ2 ∧
    GoodF c X.K m1 G1 H1 W (forL t (exs (runB tb n) b) src (xs.drop i) i σ2 h2) { D with rt := D.rt }
  refine ⟨Iv, ⟨xs.length, rfl, Nat.zero_le _, m1, G1, h1, σ, Stp.refl s1, r1, rs1, g1'⟩, fun j k τ2 Hc ⟨ek, hj, m2, G2, h2', σ2, st, r2, rs2, g2⟩ => ?_⟩
  cases hx : xs[j]? with
  | none =>
    have hl : xs.length ≤ j := List.getElem?_eq_none_iff.mp hx
    have hj' : j = xs.length := Nat.le_antisymm hj hl
    subst hj'
    rw [List.drop_eq_nil_of_le (Nat.le_refl _)] at g2
    have e2 : forL t (exs (runB tb n) b) src [] xs.length σ2 h2' = if src.fin h2' xs.length then RF.ok (.nx σ2) h2' else RF.stuck := rfl
    rw [e2] at g2
    by_cases hf : src.fin h2' xs.length = true
    · rw [if_pos hf] at g2
      exact .inl ⟨jw.stop m2 G2 Hc h2' st r2 hf, g2 m2 G2 Hc st r2 τ2 rs2⟩
    · rw [if_neg hf] at g2; exact g2.elim
  | some x0 =>
    have hlt : j < xs.length := (List.getElem?_eq_some_iff.mp hx).1
    have ed : xs.drop j = x0 :: xs.drop (j + 1) := by
      rw [List.drop_eq_getElem_cons hlt, (List.getElem?_eq_some_iff.mp hx).2]
    rw [ed] at g2
    have e2 : forL t (exs (runB tb n) b) src (x0 :: xs.drop (j + 1)) j σ2 h2' = (match src.cur h2' j x0 with
      | none => RF.stuck
      | some x => match putT t x σ2 with
        | none => .stuck
        | some σ => match exs (runB tb n) b σ h2' with
          | .ok (.nx σ) h => forL t (exs (runB tb n) b) src (xs.drop (j + 1)) (j + 1) σ h
          | .ok (.ct σ) h => forL t (exs (runB tb n) b) src (xs.drop (j + 1)) (j + 1) σ h
          | .ok (.bk σ) h => .ok (.nx σ) h
          | .ok (.rt v) h => .ok (.rt v) h
          | .exc x σ h => .exc x σ h
          | .stuck => .stuck) := rfl
    rw [e2] at g2
    cases hcur : src.cur h2' j x0 with
    | none => rw [hcur] at g2; exact g2.elim
    | some y0 =>
      rw [hcur] at g2
      cases hput : putT t y0 σ2 with
      | none => simp only [hput] at g2; exact g2.elim
      | some σ1 =>
        simp only [hput] at g2
        obtain ⟨j1, j2⟩ := jw.go m2 G2 Hc h2' j x0 y0 st r2 hx hcur
        refine .inr ⟨j1, fun τ' H' => Iv (j + 1) (xs.length - (j + 1)) τ' H', fun τ' H' iv => ⟨_, by omega, iv⟩, fun v H3 hy => ?_⟩
        obtain ⟨G3, s23, r3, q3⟩ := j2 v H3 hy
        have s13 := st.trans s23
        refine put_ok EN.e1.calm EN.e1.nd EN.locs s23.sub2 h2 hput (rs2.step r2 s23) q3 fun τ1 r1' len kp => ?_
        refine hb X W p X.env.scope EN rfl h4 m1 m2 G1 H1 G3 H3 h2' σ1 τ1 _ s13 r3 r1' ?_
        cases e5 : exs (runB tb n) b σ1 h2' with
        | stuck => simp only [e5] at g2; exact g2.elim
        | exc y σ1 h1 => simp only [e5] at g2; exact g2
        | ok f h3 =>
          cases f with
          | nx σ3 =>
            simp only [e5] at g2
            exact fun m4 G4 H4 s4 r4 τ4 rs4 => ⟨rfl, hlt, m4, G4, h3, σ3, s4, r4, rs4, g2⟩
          | ct σ3 =>
            simp only [e5] at g2
            exact fun m4 G4 H4 s4 r4 τ4 rs4 => ⟨rfl, hlt, m4, G4, h3, σ3, s4, r4, rs4, g2⟩
          | rt v => simp only [e5] at g2; exact g2
          | bk σ3 => simp only [e5] at g2; exact g2
theorem ss_fr {t i : I} {b : List S} (hb : SSs ck c tb n b) : SS ck c tb n (.fr t i b) := by
  intro X W st sc EN hsc hm m0 m G0 H0 G H h σ τ D s0 r rs g
  subst hsc
  have ⟨y, z, p, pos, est⟩ : ∃ y z p pos, st = .For y z p [] pos := by
    cases st with
    | For y z p q pos =>
      cases q with
      | nil => exact ⟨_, _, _, _, rfl⟩
      | cons _ _ => exact Bool.noConfusion (show false = true from hm)
    | _ => exact Bool.noConfusion (show false = true from hm)
  subst est
  obtain ⟨hm, h4⟩ := ba (show (((mI ck X.N X.env.scope i z && mT X.N X.env.scope t y) && (!isPairIt i || isTupT t)) && mSs ck X.N X.env.scope b p) = true from hm)
  obtain ⟨hm, h3⟩ := ba hm
  obtain ⟨h1, h2⟩ := ba hm
  have hp : isPairIt i = true → isTupX y = true := fun hi => by
    rw [hi] at h3
    have h3 : isTupT t = true := h3
    cases t with
    | tup ts => cases y <;> first | rfl | exact Bool.noConfusion (show false = true from h2)
    | _ => exact Bool.noConfusion (show false = true from h3)
  refine ⟨_, ps_for EN.own EN.e1.calm (piL piB) pgB pssB (fun _ => fold_pure (mI_with h1)), ?_⟩
  have g0 : GoodF c X.K m0 G0 H0 W (RF.of (evi (runB tb n) i σ h) σ fun s h => forL t (exs (runB tb n) b) s (s.items h) 0 σ h) D := g
  refine (all i).2.2 X W y z X.env.scope EN.e1 rfl h1 hp m G H h σ τ _ r s0.sub2 rs (Good.mono (GoodF.of s0 r rs g0) fun src m1 G1 H1 s1 ⟨h1, e1, r1, g1⟩ J hJ L => ?_)
  have jw := hJ h1 e1 r1
  generalize hxs : Src.items h1 src = xs at jw
  rw [hxs] at g1
  have rs1 := rs.step r s1
  have s01 := s0.trans s1
  have g1 := GoodF.later s01 g1
  exact turns_for hb EN h2 h4 s1.sub2 r1 rs1 jw g1
/-! ### a zip that is stored, then walked -/
theorem boot_zip2 : bootBuiltins ("zip" : Str) = some (.type "zip") := by decide +kernel
theorem Good.map {α β : Type} {c : Cs} {K : PySem.W.Frag} {m : List Addr} {G H : Hp} {E : WE3} {r : R α} {f : α → β} {P : α → List Addr → Hp → Hp → Prop} (g : Good c K m G H E r P) : Good c K m G H E (r.bind fun a h => .ok (f a) h) (fun b m' G' H' => ∃ a, b = f a ∧ P a m' G' H') := by
  cases r with
  | ok a h => exact fun m' G' H' s r => ⟨a, rfl, g m' G' H' s r⟩
  | exc x h => exact g
  | stuck => exact g
theorem mZip_inv {N : List Str} {sc : Scope} {i : Nat} {a b : I} {st : Stmt} (h : mZip ck N sc i a b st = true) : ∃ y p1 p2 x1 x2 p3 p4, st = .Assign [.Name y p1] (.Call (.Name "zip" p2) [x1, x2] [] p3) p4 ∧ N[i]? = some y ∧ loc sc y = true ∧ bltn ck sc ("zip" : Str) = true ∧ mE ck N sc a x1 = true ∧ mE ck N sc b x2 = true := by
  unfold mZip at h
  split at h
  · obtain ⟨h, h6⟩ := ba h
    obtain ⟨h, h5⟩ := ba h
    obtain ⟨h, h4⟩ := ba h
    obtain ⟨h, h3⟩ := ba h
    obtain ⟨h1, h2⟩ := ba h
    have e := of_decide_eq_true h3
    subst e
    exact ⟨_, _, _, _, _, _, _, rfl, of_decide_eq_true h1, h2, h4, h5, h6⟩
  · cases h
/-- the store of a zip: what follows stands behind it -/
theorem zip_set {X : Cx} {W : WX} (EN : EnvS ck c tb n X W) {i : Nat} {a b : I} {st : Stmt} (hm : mZip ck X.N X.env.scope i a b st = true) {m0 m : List Addr} {G0 H0 G H : Hp} {h : Hh} {σ : Sg} {τ : L2.St} {D : Ends} {k : Src → Hh → RF} (s0 : Stp m0 G0 H0 m G H) (r : Rel X.K m h G) (rs : RS X.K m G σ τ)
    (g : GoodF c X.K m0 G0 H0 W (RF.of (evi (runB tb n) (.zip a b) σ h) σ k) D) {R : L2.St → Hp → Prop}
    (hR : ∀ (src : Src) (h1 : Hh) (m1 : List Addr) (G1 H1 : Hp) (J : It) (it : Addr) (l : Obs), Stp m0 G0 H0 m1 G1 H1 → Rel X.K m1 h1 G1 → RS X.K m1 G1 σ τ → JW X.K src (src.items h1) J m1 G1 H1 → ZV X J it l H1 → GoodF c X.K m0 G0 H0 W (k src h1) D → R (τ.set i (some (.ref it))) (updF l H1)) : bS X st { D with nx := R } τ H := by
  obtain ⟨y, p1, p2, x1, x2, p3, p4, rfl, e1, e2, e3, e5, e6⟩ := mZip_inv hm
  obtain ⟨k1, k2⟩ := isFree_of EN.e1 rfl e3
  obtain ⟨l1, l2⟩ := EN.locs y e2
  have sx1 := star_of (env := X.env) (xs := [x2]) (mE_plain a e5)
  have sx2 := star_of (env := X.env) (xs := []) (mE_plain b e6)
  refine ⟨_, ps_set EN.e1.nd e1 l1 (pe_callTy callB k1 k2 boot_zip2 paB (by decide) (by decide) sx1 (by rw [backTo_any, sx2]; rfl)) (by rw [sw_ok EN.kind]; rfl) l2, ?_⟩
  have g0 := GoodF.of s0 r rs g
  cases hev : evi (runB tb n) (.zip a b) σ h with
  | stuck => rw [hev] at g0; exact g0.elim
  | exc y h1 =>
    -- an exception of one of the two
    have g1 : Good c X.K m G H (fun C d H' => W C d τ H') ((ev (runB tb n) a σ h).bind fun x h => (ev (runB tb n) b σ h).bind fun y h => zipSrc x y h) (fun _ _ _ _ => False) := by
      show Good c X.K m G H _ (evi (runB tb n) (.zip a b) σ h) _
      rw [hev] at g0 ⊢
      exact g0
    refine ⟨_, pa_cons peB (pa_cons peB pa_nil sx2) sx1, ?_⟩
    refine (all a).1 X W x1 X.env.scope EN.e1 rfl e5 m G H h σ τ _ r s0.sub2 rs (Good.mono (Good.bind s0.sub2 g1) fun rv m1 G1 H1 s1 ⟨h1, _, r1, s01, g2⟩ v q => ?_)
    refine (all b).1 X W x2 X.env.scope EN.e1 rfl e6 m1 G1 H1 h1 σ τ _ r1 s1.sub2 (rs.step r s1) (Good.mono (Good.bindL s1 g2) fun rw' m2 G2 H2 s2 ⟨h2, _, r2, s02, g3⟩ w q2 => ?_)
    exfalso
    cases e3 : zipSrc rv rw' h2 with
    | stuck => rw [e3] at g3; exact g3.elim
    | ok s h3 => rw [e3] at g3; obtain ⟨e4, _⟩ := zipSrc_ok e3; subst e4; exact g3 m2 G2 H2 s02 r2
    | exc _ _ =>
      unfold zipSrc at e3
      split at e3
      · cases e3
      · cases e3
      · cases e3
      · cases e4 : ((rv.lisc h2).bind fun xs => (rw'.lisc h2).map fun ys => Src.vals (zipD xs ys)) with
        | none => rw [e4] at e3; cases e3
        | some _ => rw [e4] at e3; cases e3
  | ok src hs =>
    have g1 : Good c X.K m G H (fun C d H' => W C d τ H') ((ev (runB tb n) a σ h).bind fun x h => (ev (runB tb n) b σ h).bind fun y h => zipSrc x y h) (fun s m1 G1 H1 => s = src ∧ Rel X.K m1 hs G1 ∧ GoodF c X.K m0 G0 H0 W (k src hs) D) := by
      show Good c X.K m G H _ (evi (runB tb n) (.zip a b) σ h) _
      rw [hev] at g0 ⊢
      exact fun m1 G1 H1 s1 r1 => by
        obtain ⟨h2, e, _, gg⟩ := g0 m1 G1 H1 s1 r1
        cases e
        exact ⟨rfl, r1, gg⟩
    refine ⟨_, pa_cons peB (pa_cons peB pa_nil sx2) sx1, ?_⟩
    refine (all a).1 X W x1 X.env.scope EN.e1 rfl e5 m G H h σ τ _ r s0.sub2 rs (Good.mono (Good.bind s0.sub2 g1) fun rv m1 G1 H1 s1 ⟨h1, _, r1, s01, g2⟩ v q => ?_)
    refine (all b).1 X W x2 X.env.scope EN.e1 rfl e6 m1 G1 H1 h1 σ τ _ r1 s1.sub2 (rs.step r s1) (Good.mono (Good.bindL s1 g2) fun rw' m2 G2 H2 s2 ⟨h2, _, r2, s02, g3⟩ w q2 => ?_)
    have q1 := RR.step r1 s2 q
    cases e3 : zipSrc rv rw' h2 with
    | stuck => rw [e3] at g3; exact g3.elim
    | exc _ _ =>
      exfalso
      unfold zipSrc at e3
      split at e3
      · cases e3
      · cases e3
      · cases e3
      · cases e4 : ((rv.lisc h2).bind fun xs => (rw'.lisc h2).map fun ys => Src.vals (zipD xs ys)) with
        | none => rw [e4] at e3; cases e3
        | some _ => rw [e4] at e3; cases e3
    | ok src' h3 =>
      rw [e3] at g3
      obtain ⟨e4, kk⟩ := zipSrc_ok e3
      subst e4
      obtain ⟨e5, r3, gk⟩ := g3 m2 G2 H2 s02 r2
      subst e5
      have s2' := s0.trans s02
      have rs2 := rs.step r s02
      rcases kk with ⟨xs, ys, rfl, rfl, rfl⟩ | ⟨xs, ys, n1, n2, l1, l2, rfl⟩
      · obtain ⟨p, vs, rfl, t1, l1⟩ := RD.tup_of q1
        obtain ⟨p', ws, rfl, t2, l2⟩ := RD.tup_of q2
        exact ⟨_, call_zipV, p, p', vs, ws, rfl, .inr ⟨SqT.sub s2.sub2 t1, SqT.sub s2.sub2 t2, fun it l Z => hR _ hs m2 G2 H2 _ it l s2' r3 rs2 (JW.zipT s2.sub2 r2 t1 l1 t2 l2) Z gk⟩⟩
      · obtain ⟨p, vs, rfl, t1, k1, l1⟩ := RR.keepL s2.sub2 r2 q1 n1 l1
        obtain ⟨p', ws, rfl, t2, k2, l2⟩ := RR.keepL s2.sub2 r2 q2 n2 l2
        exact ⟨_, call_zipV, p, p', vs, ws, rfl, .inl ⟨t1, t2, fun it l Z => hR _ hs m2 G2 H2 _ it l s2' r3 rs2 (JW.zipL r2 t1 k1 l1 k2 l2) Z gk⟩⟩
theorem set_in {τ : L2.St} {σ : Sg} {i : Nat} {v : Option V} (l : σ.length = τ.length) (h : i < σ.length) : (τ.set i v)[i]? = some v := List.getElem?_set_self (by rw [← l]; exact h)
theorem mZr_inv {N : List Str} {sc : Scope} {i : Nat} {q : Bi} {e t d : I} {w : List (Str × Nat)} {st : Stmt} (h : mZr ck N sc i q e t d w st = true) : ∃ p1 x elts kk tpos y p2 ifs scope p3 p4 p5, st = .Return (some (.Call (.Name (biName q) p1) [.ListComp x [⟨.Tuple elts kk tpos, .Name y p2, ifs, 0⟩] scope p3] [] p4)) p5 ∧ bltn ck sc (biName q) = true ∧ N[i]? = some y ∧ vis sc y = true ∧ okName y = true ∧ blkC N sc scope w = true ∧ mT N scope t (.Tuple elts kk tpos) = true ∧ mE ck N (relS scope sc) e x = true ∧ mIfs ck N (relS scope sc) d ifs = true := by
  unfold mZr at h
  split at h
  · rename_i qn p1 x tg y p2 ifs k scope p3 p4 p5
    obtain ⟨h, h11⟩ := ba h
    obtain ⟨h, h10⟩ := ba h
    obtain ⟨h, h9⟩ := ba h
    obtain ⟨h, h8⟩ := ba h
    obtain ⟨h, h7⟩ := ba h
    obtain ⟨h, h6⟩ := ba h
    obtain ⟨h, h5⟩ := ba h
    obtain ⟨h, h4⟩ := ba h
    obtain ⟨h, h3⟩ := ba h
    obtain ⟨h1, h2⟩ := ba h
    have e1 := of_decide_eq_true h1
    have e3 := of_decide_eq_true h3
    subst e1 e3
    cases t with
    | tup ts =>
      cases tg with
      | Tuple elts kk tpos => exact ⟨_, _, _, _, _, _, _, _, _, _, _, _, rfl, h2, of_decide_eq_true h4, h5, h6, h7, h8, h10, h11⟩
      | _ => cases h8
    | _ => cases h9
  · cases h
theorem sss_zret {i : Nat} {a b : I} {q : Bi} {e t d : I} {w : List (Str × Nat)} {ss : List S} : SSs ck c tb n (.zret i a b q e t d w :: ss) := by
  intro X W st sc EN hsc hm m0 m G0 H0 G H h σ τ D s0 r rs g
  subst hsc
  match st, hm with
  | [], hm => exact Bool.noConfusion (show false = true from hm)
  | [x], hm => exact Bool.noConfusion (show false = true from (by cases x <;> exact hm))
  | s1 :: s2 :: xs, hm =>
    obtain ⟨hm, _⟩ := ba (show ((mZip ck X.N X.env.scope i a b s1 && mZr ck X.N X.env.scope i q e t d w s2) && mSs ck X.N X.env.scope ss xs) = true from hm)
    obtain ⟨h1, h2⟩ := ba hm
    obtain ⟨p1, x, elts, kk, tpos, y, p2, ifs, scope, p3, p4, p5, rfl, k1, k2, k3, k4, k5, k6, k7, k8⟩ := mZr_inv h2
    have g0 : GoodF c X.K m0 G0 H0 W (if i < σ.length then RF.of (evi (runB tb n) (.zip a b) σ h) σ fun s h => RF.of ((turns t (ev (runB tb n) d) (ev (runB tb n) e) s (wipeD (σ.set i none) w) (s.items h) 0 h).bind fun l h => R.ofO (biOp q [.lst l] h) h) (σ.set i none) fun x h => .ok (.rt x) h else .stuck) D := by
      have g : GoodF c X.K m0 G0 H0 W (match ex (runB tb n) (.zret i a b q e t d w) σ h with
        | .ok (.nx σ) h => exs (runB tb n) ss σ h
        | x => x) D := g
      have e0 : ex (runB tb n) (.zret i a b q e t d w) σ h = (if i < σ.length then RF.of (evi (runB tb n) (.zip a b) σ h) σ fun s h => RF.of ((turns t (ev (runB tb n) d) (ev (runB tb n) e) s (wipeD (σ.set i none) w) (s.items h) 0 h).bind fun l h => R.ofO (biOp q [.lst l] h) h) (σ.set i none) fun x h => .ok (.rt x) h else .stuck) := rfl
      rw [← e0]
      have nonx : ∀ σ' h', ex (runB tb n) (.zret i a b q e t d w) σ h ≠ .ok (.nx σ') h' := fun σ' h' z => by
        rw [e0] at z
        by_cases hi : i < σ.length
        · rw [if_pos hi] at z
          cases u1 : evi (runB tb n) (.zip a b) σ h with
          | stuck => rw [u1] at z; cases z
          | exc _ _ => rw [u1] at z; cases z
          | ok s1 h1 =>
            rw [u1] at z
            have z : RF.of ((turns t (ev (runB tb n) d) (ev (runB tb n) e) s1 (wipeD (σ.set i none) w) (s1.items h1) 0 h1).bind fun l h => R.ofO (biOp q [.lst l] h) h) (σ.set i none) (fun x h => .ok (.rt x) h) = .ok (.nx σ') h' := z
            cases u2 : ((turns t (ev (runB tb n) d) (ev (runB tb n) e) s1 (wipeD (σ.set i none) w) (s1.items h1) 0 h1).bind fun l h => R.ofO (biOp q [.lst l] h) h) with
            | stuck => rw [u2] at z; cases z
            | exc _ _ => rw [u2] at z; cases z
            | ok _ _ => rw [u2] at z; cases z
        · rw [if_neg hi] at z; cases z
      cases u : ex (runB tb n) (.zret i a b q e t d w) σ h with
      | stuck => rw [u] at g; exact g
      | exc _ _ _ => rw [u] at g; exact g
      | ok f h' =>
        rw [u] at g
        cases f with
        | nx σ' => exact absurd u (nonx _ _)
        | _ => exact g
    by_cases hi : i < σ.length
    · rw [if_pos hi] at g0
      refine ⟨_, pss_cons psB (pss_cons psB pssB), ?_⟩
      refine zip_set EN h1 (D := D) s0 r rs g0 fun src h1 m1 G1 H1 J it l s1 r1 rs1 jw Z g1 => ?_
      obtain ⟨f1, f2⟩ := isFree_of EN.e1 rfl k1
      have wi : PI X (.Tuple elts kk tpos) (.Name y p2) _ := pi_zv (elts := elts) (kk := kk) (tpos := tpos) (p := p2) k2 (vis_of k3) (okName_dbg k4) (okName_cd k4)
      have lc := pe_lc (pos := p3) (g := iG X scope (.Tuple elts kk tpos)) (tt := iT X scope ifs) (te := iE X scope x) EN.e1.calm EN.e1.nd (piL wi) (blkOk_by k5) pgI ptI peI (fun _ => rfl)
      have isB : (∃ id, biVal q = .builtin id) ∨ ∃ T, biVal q = .type T := by cases q <;> first | exact .inl ⟨_, rfl⟩ | exact .inr ⟨_, rfl⟩
      have bb := boot_bi q
      have rs1' := rs1.gone i (some (.ref it))
      have g2 := GoodF.of s1 r1 rs1' g1
      have body : bA X [.ListComp x [⟨.Tuple elts kk tpos, .Name y p2, ifs, 0⟩] scope p3] (τ.set i (some (.ref it))) (updF l H1) fun vs H' => bCall X (biVal q) vs H' D.rt := by
        refine ⟨_, pa_cons lc pa_nil rfl, ?_⟩
        refine ⟨it, l, J, H1, set_in rs1.len hi, Z, rfl, fun L Dd hD => ?_⟩
        refine turns_lc (Q := fun v H' => bCall X (biVal q) [v] H' D.rt) (all e).1 (all d).2.1 EN.e1 k5 k6 k7 k8 (.refl s1.sub2) r1 rs1' jw L (Good.mono (Good.map (f := RV.lst) (Good.bind s1.sub2 g2)) fun rv m' G' H' s' ⟨ll, e1, h3, e3, r3, s3, g3⟩ v qv => ?_) Dd hD
        subst e1
        obtain ⟨z, ez, g4⟩ := Good.ofO g3
        refine bi_ok EN.e1.calm (by have := EN.e1.units; omega) ez s'.sub2 r3 (.cons qv .nil) fun m4 G4 H4 s4 r4 v4 q4 => ?_
        obtain ⟨h5, e5, _, g5⟩ := g4 m4 G4 H4 (s3.trans s4) r4
        rw [e3] at e5
        have e6 : R.ofO (biOp q [.lst ll] h3) h3 = .ok z h5 := e5
        rw [ez] at e6
        cases e6
        have g6 : GoodF c X.K m0 G0 H0 W (.ok (.rt z) h3) D := g5
        exact g6 m4 G4 H4 ((s1.trans s3).trans s4) r4 v4 (RR.early (s1.trans s3) q4 fun a ha => s4.mem ha)
      rcases isB with ⟨id, e'⟩ | ⟨T, e'⟩
      · rw [e'] at bb body
        exact ⟨_, ps_ret (pe_callB callB f1 f2 bb paB (biName_ok q).1 (biName_ok q).2 rfl rfl), body⟩
      · rw [e'] at bb body
        exact ⟨_, ps_ret (pe_callTy callB f1 f2 bb paB (biName_ok q).1 (biName_ok q).2 rfl rfl), body⟩
    · rw [if_neg hi] at g0; exact g0.elim
theorem sss_zfr {i : Nat} {a b t : I} {body ss : List S} (hb : SSs ck c tb n body) (hr : SSs ck c tb n ss) : SSs ck c tb n (.zfr i a b t body :: ss) := by
  intro X W st sc EN hsc hm m0 m G0 H0 G H h σ τ D s0 r rs g
  subst hsc
  have ⟨s1, tg, y, p1, p, p2, xs, est⟩ : ∃ s1 tg y p1 p p2 xs, st = s1 :: .For tg (.Name y p1) p [] p2 :: xs := by
    match st, hm with
    | [], hm => exact Bool.noConfusion (show false = true from hm)
    | [x], hm => exact Bool.noConfusion (show false = true from (by cases x <;> exact hm))
    | s1 :: s2 :: xs, hm =>
      cases s2 with
      | For tg it p els p2 =>
        cases it with
        | Name y p1 =>
          cases els with
          | nil => exact ⟨_, _, _, _, _, _, _, rfl⟩
          | cons _ _ => exact Bool.noConfusion (show false = true from (by cases s1 <;> exact hm))
        | _ => exact Bool.noConfusion (show false = true from (by cases s1 <;> exact hm))
      | _ => exact Bool.noConfusion (show false = true from (by cases s1 <;> exact hm))
  subst est
  obtain ⟨hm, h8⟩ := ba (show (((((((mZip ck X.N X.env.scope i a b s1 && decide (X.N[i]? = some y)) && vis X.env.scope y) && okName y) && mT X.N X.env.scope t tg) && isTupT t) && mSs ck X.N X.env.scope body p) && mSs ck X.N X.env.scope ss xs) = true from hm)
  obtain ⟨hm, h7⟩ := ba hm
  obtain ⟨hm, h6⟩ := ba hm
  obtain ⟨hm, h5⟩ := ba hm
  obtain ⟨hm, h4⟩ := ba hm
  obtain ⟨hm, h3⟩ := ba hm
  obtain ⟨h1, h2⟩ := ba hm
  have h2 : X.N[i]? = some y := of_decide_eq_true h2
  have ⟨elts, kk, tpos, et⟩ : ∃ elts kk tpos, tg = .Tuple elts kk tpos := by
    cases t with
    | tup ts => cases tg <;> first | exact ⟨_, _, _, rfl⟩ | exact Bool.noConfusion (show false = true from h5)
    | _ => cases h6
  subst et
  have g0 : GoodF c X.K m0 G0 H0 W (match (if i < σ.length then RF.of (evi (runB tb n) (.zip a b) σ h) σ fun s h => forL t (exs (runB tb n) body) s (s.items h) 0 (σ.set i none) h else RF.stuck) with
    | .ok (.nx σ) h => exs (runB tb n) ss σ h
    | x => x) D := g
  by_cases hi : i < σ.length
  · rw [if_pos hi] at g0
    refine ⟨_, pss_cons psB (pss_cons psB pssB), ?_⟩
    -- the rest stands behind the loop
    have g1 : GoodF c X.K m0 G0 H0 W (RF.of (evi (runB tb n) (.zip a b) σ h) σ fun s h => forL t (exs (runB tb n) body) s (s.items h) 0 (σ.set i none) h) { D with nx := bSs X xs D } := by
      cases u : (RF.of (evi (runB tb n) (.zip a b) σ h) σ fun s h => forL t (exs (runB tb n) body) s (s.items h) 0 (σ.set i none) h) with
      | stuck => rw [u] at g0; exact g0
      | exc _ _ _ => rw [u] at g0; exact g0
      | ok f h' =>
        rw [u] at g0
        cases f with
        | nx σ' => exact fun m' G' H' s' r' τ' rs' => hr X W xs X.env.scope EN rfl h8 m0 m' G0 H0 G' H' h' σ' τ' D s' r' rs' g0
        | _ => exact g0
    refine zip_set EN h1 (D := { D with nx := bSs X xs D }) s0 r rs g1 fun src h1' m1 G1 H1 J it l s1' r1 rs1 jw Z g2 => ?_
    have wi : PI X (.Tuple elts kk tpos) (.Name y p1) _ := pi_zv (elts := elts) (kk := kk) (tpos := tpos) (p := p1) h2 (vis_of h3) (okName_dbg h4) (okName_cd h4)
    refine ⟨_, ps_for EN.own EN.e1.calm (piL wi) pgB pssB (fun _ => rfl), ?_⟩
    refine ⟨it, l, J, H1, set_in rs1.len hi, Z, rfl, fun L => ?_⟩
    exact turns_for (D := { D with nx := bSs X xs D }) hb EN h5 h7 s1'.sub2 r1 (rs1.gone i (some (.ref it))) jw (GoodF.later s1' g2)
  · rw [if_neg hi] at g0; exact g0.elim
mutual
theorem allS : ∀ s : S, SS ck c tb n s
  | .set _ _ => ss_set
  | .aug _ _ _ => ss_aug
  | .exp _ => ss_exp
  | .ret _ => ss_ret
  | .ret0 => ss_ret0
  | .ifs _ a b => ss_ifs (allSs a) (allSs b)
  | .fr _ _ b => ss_fr (allSs b)
  | .wh _ _ b => ss_wh (allSs b)
  | .pass => ss_pass
  | .brk => ss_brk
  | .cnt => ss_cnt
  | .nev => ss_nev
  | .zret _ _ _ _ _ _ _ _ => ss_bad fun N sc x h => by cases x <;> exact Bool.noConfusion (show false = true from h)
  | .zfr _ _ _ _ _ => ss_bad fun N sc x h => by cases x <;> exact Bool.noConfusion (show false = true from h)
  | .rs _ _ _ => ss_rs
  | .tr b _ _ _ _ _ => ss_tr (allSs b)
theorem allSs : ∀ s : List S, SSs ck c tb n s
  | [] => sss_nil
  | s :: r => by
    have h1 := allS s
    have h2 := allSs r
    cases s with
    | zret _ _ _ _ _ _ _ _ => exact sss_zret
    | zfr _ _ _ _ b => exact sss_zfr (allSs b) h2
    | _ => exact sss_cons rfl h1 h2
end
end
end Cw
end

section
set_option Elab.async false
set_option linter.all false
set_option maxRecDepth 100000
set_option maxHeartbeats 4000000
/-! Cw24: the defs of a text, all at once; a law. -/
namespace Cw
open PySem PySem.Spec PyProof.Rows L2

/-- a def of the text -/
structure Def1 (ck : Ck) (tb : Tb) (K : PySem.W.Frag) (mg : Str → Option Value) (g : Nat) (x : Str) (ps : List Str) (fa : Addr) (fd : FuncData) : Prop where
  ex : ∃ (fn : Fn) (name qual : Str) (params : Arguments) (body : List Stmt) (scope : Scope), tb g = some fn ∧ fn.ps = ps ∧ FunD K name qual params body scope [] [] fa fd ∧ FnScope fn.ns fn.ps scope ∧ mSs ck fn.ns scope fn.body body = true
  mg : mg x = some (.ref fa)
  bind : BindsAll K fd ps
  one : ∀ (p : Str), ps = [p] → ∀ (s : Shared) (u : Value), BindsTo s fd ⟨[u], []⟩ [(p, u)]
/-- the facts of a text -/
structure Text (ck : Ck) (c : Cs) (P : Program) (tb : Tb) (K : PySem.W.Frag) (mg : Str → Option Value) : Prop where
  free : ∀ x, ck.isFree x = true → mg x = none
  cons : ∀ x d, ck.isCon x d = true → ∃ u v, mg x = some u ∧ RelV v u ∧ ∀ m G, RD K m G d v
  fns : ∀ g x ps, (g, x, ps) ∈ ck.fns → ∃ fa fd, Def1 ck tb K mg g x ps fa fd
  xc : XcF ck c P K mg

section
variable {ck : Ck} {c : Cs} {tb : Tb} {P : Program} {w : World} {K : PySem.W.Frag} {mg : Str → Option Value} {base : Heap}
theorem rs_start {m : List Addr} {G : Hp} {ds : List D} {vs : List V} {N : List Str} (l : RDs K m G ds vs) : RS K m G (ds.map some ++ List.replicate (N.length - ds.length) none) (L2.start N vs) := by
  have e := l.length
  refine ⟨by unfold L2.start; rw [List.length_append, List.length_append, List.length_map, List.length_map, List.length_replicate, List.length_replicate, e], fun i d h => ?_⟩
  unfold L2.start
  by_cases hi : i < ds.length
  · rw [List.getElem?_append_left (by rw [List.length_map]; exact hi), List.getElem?_map] at h
    obtain ⟨d', e1, e2⟩ := map_some h
    cases e2
    obtain ⟨v, e3, q⟩ := l.get e1
    exact ⟨v, by rw [List.getElem?_append_left (by rw [List.length_map, ← e]; exact hi), List.getElem?_map, e3]; rfl, q⟩
  · rw [List.getElem?_append_right (by rw [List.length_map]; omega)] at h
    rw [List.getElem?_replicate] at h
    split at h <;> cases h
theorem fns_ok (T : Text ck c P tb K mg) : ∀ (n : Nat) {g : Nat} {x : Str} {ps : List Str} {fa : Addr} {fd : FuncData}, Def1 ck tb K mg g x ps fa fd → FnG P w K mg base (CX P w) (n + 1) fa fd ps (spF c tb K n g)
  | 0, g, x, ps, fa, fd, d => ⟨fun vs H Q E ⟨m, G, h, ds, _, _, _, q⟩ => q.elim, fun A outer s H args us vs Q E hr gd e0 hb rv ⟨m, G, h, ds, _, _, _, q⟩ => q.elim⟩
  | n + 1, g, x, ps, fa, fd, d => by
    obtain ⟨⟨fn, name, qual, params, body, scope, ht, hp, F, S, hm⟩, _, _, _⟩ := d
    subst hp
    have er : ∀ ds h, run tb (n + 1) g ds h = (if ds.length = fn.ps.length then
        match exs (runB tb n) fn.body (ds.map some ++ List.replicate (fn.ns.length - ds.length) none) h with
        | .ok (.rt v) h => R.ok v h
        | .ok (.nx _) h => .ok (.d .non) h
        | .exc x _ h => .exc x h
        | _ => .stuck
      else .stuck) := fun ds h => by
      show (match tb g with
        | none => R.stuck
        | some fn => _) = _
      rw [ht] <;> rfl
    obtain ⟨oc, od, dV, kV, doc, pm, an, cdv, ct, osl, rfl, lk, hcd, _, _⟩ := F.ex
    refine fng_of lk hcd S (fun vs H Q E ⟨m, G, h, ds, r, s, l, q⟩ => ?_) (fun A outer s H vs Q E hr gd ⟨m, G, h, ds, r, s0, l, q⟩ => ?_)
    · rw [er] at q
      by_cases hl : ds.length = fn.ps.length
      · rw [← l.length]; exact hl
      · rw [if_neg hl] at q; exact q.elim
    · rw [er] at q
      by_cases hl : ds.length = fn.ps.length
      · rw [if_pos hl] at q
        let W : WX := fun cls d _ H => E cls d H
        let X := cxOf (CX P w) P w K mg base fn.ns qual scope fa cdv A outer s H E
        have EN : EnvS ck c tb n X W := by
          refine ⟨⟨rfl, hr, gd, S.nd, takes_of rfl rfl rfl rfl, T.free, T.cons, fun g x ps hg => ?_, T.xc⟩, S.kind, passes_of rfl, fun y hy => ⟨loc_of hy, .inl rfl⟩, rfl, rfl⟩
          obtain ⟨fa', fd', d'⟩ := T.fns g x ps hg
          obtain ⟨fn', _, _, _, _, _, _, _, F', _, _⟩ := d'.ex
          exact ⟨fa', fd', d'.mg, F'.kp, d'.bind, fns_ok T n d'⟩
        refine allSs fn.body X W body scope EN rfl hm m m G H G H h _ _ _ (.refl s0) r (rs_start l) ?_
        generalize ee : exs (runB tb n) fn.body (ds.map some ++ List.replicate (fn.ns.length - ds.length) none) h = rf at q
        cases rf with
        | stuck => exact q.elim
        | exc y σ1 h1 => exact fun m' G' H' C d τ st r' rs' xa => q m' G' H' C d st r' xa
        | ok f h1 =>
          cases f with
          | rt v => exact fun m' G' H' st r' u qu => q m' G' H' st r' u qu
          | nx σ1 => exact fun m' G' H' st r' τ rs' => q m' G' H' st r' .non RD.non
          | bk _ => exact q.elim
          | ct _ => exact q.elim
      · rw [if_neg hl] at q; exact q.elim
/-- a law that hands back True -/
theorem law_sp {n g : Nat} {ns : List Int} (h : ∃ h', run tb n g [.sc (ns.map D.int)] [] = .ok (.d (.bl true)) h') {H : Hp} {a : Addr} (q : SqL K H a (ns.map V.int)) {E : XK} : spF c tb K n g [.ref a] H (fun v _ => v = .bl true) E := by
  obtain ⟨h', e⟩ := h
  refine ⟨[], H, [], [.sc (ns.map D.int)], rel_nil, Sub.refl, .cons (.sc (vs := ns.map V.int) ?_ ?_) .nil, ?_⟩
  · rcases q with (q | q) | q
    · exact .inr (.inr ⟨q, by simp⟩)
    · exact .inl q
    · exact .inr (.inl q)
  · clear q e
    induction ns with
    | nil => exact .nil
    | cons i r ih => exact .cons (.int i) ih
  · rw [e]
    exact fun m' G' H' st r' v qv => RD.bl_of qv
end
end Cw
end

section
set_option Elab.async false
set_option linter.all false
set_option maxRecDepth 100000
set_option maxHeartbeats 4000000
/-! Cw25: the law's def called from outside, where no container is being shown. -/
namespace Cw
open PySem PySem.Spec PyProof.Rows L2

section
variable {P : Program} {w : World} {K : PySem.W.Frag} {mg mb : Str → Option Value} {CX : CXT} {k : Nat} {fa a : Addr} {fd : FuncData} {x : Str} {sp : Sp} {s₁ : Shared} {vs : List Value} {ns : List Int}
/-- from an abstract heap in which the script may be tracked, known to the object -/
theorem call_law1 (KX : K.In s₁.heap) (hns : s₁.heap.Ns mainGlobals mg) (hb : s₁.heap.Ns builtinsNs mb) (hbb : ∀ x : Str, x ≠ "__name__" → mb x = bootBuiltins x) (hlim : s₁.heap.NoLimit) (hg : s₁.gens = #[])
    (ha : s₁.heap.get? a = some { cls := .type "list", data := .seq vs.toArray }) (hr : Room k callerA)
    (F : ∀ base : Heap, K.In base → base.Ns mainGlobals mg → FnG P w K mg base CX k fa fd [x] sp) (hbind : ∀ (s : Shared) (u : Value), BindsTo s fd ⟨[u], []⟩ [(x, u)])
    {H : Hp} (hO : ∀ b u, H b = some u → b = a ∧ ∃ o xs, u = .frz o (.lst xs)) (hok : HOk P w H s₁.heap) (hK : H a ≠ none → K.lookup a = none) (hsp : sp [.ref a] H (fun v _ => v = .bl true) fun _ _ _ => False)
    (hCX : ∀ e s', CX [] H s₁ (fun _ _ _ => False) e s' → False) :
    codeAny (model P w) callerA (.call (.ref fa) ⟨[.ref a], []⟩) (fun r s' => r = .ok (.ret (.bool true)) ∧ OldK s₁.heap s'.heap ∧ s'.os = s₁.os ∧ AllBare s'.gens) s₁ := by
  have none_of : ∀ {b : Addr} {o : Obj}, s₁.heap.get? b = some o → (b = a → o.data = .seq vs.toArray 0 → False) → H b = none := fun {b o} e n => by
    cases q : H b with
    | none => rfl
    | some u =>
      obtain ⟨e1, _⟩ := hO b u q
      subst e1
      rw [ha] at e
      cases e
      exact (n rfl rfl).elim
  have ns_of : ∀ {b : Addr} {m : Str → Option Value}, s₁.heap.Ns b m → (hidT s₁.heap H).Ns b m := fun {b m} ⟨o, es, ep, e, d, r⟩ =>
    ⟨o, es, ep, hidT_get e (none_of e fun _ z => by rw [d] at z; cases z), d, r⟩
  have kin : K.In (hidT s₁.heap H) := fun b o e => hidT_get (KX b o e) (by
    cases q : H b with
    | none => rfl
    | some u =>
      obtain ⟨e1, _⟩ := hO b u q
      subst e1
      rw [hK (by rw [q]; simp)] at e; cases e)
  have hM : Mod K mg (hidT s₁.heap H) := ⟨kin, ns_of hns, ⟨mb, ns_of hb, hbb⟩, let ⟨mc, h1, h2⟩ := hlim; ⟨mc, ns_of h1, h2⟩⟩
  have e0 : Env0 P w K mg (hidT s₁.heap H) callerA [] s₁ H := ⟨rfl, hM, fun b o e => of_hidT e, Nat.le_of_eq (hidT_size _ _), trivial, (fun b hb => nomatch hb), hok, .of_eq hg⟩
  refine codeAny_mono ((F _ kin (ns_of hns)).run callerA [] s₁ H ⟨[.ref a], []⟩ [.ref a] [.ref a] _ _ hr rfl e0 (hbind s₁ (.ref a)) (.cons rfl .nil) hsp) fun r s' h => ?_
  cases r with
  | error e => exact (hCX e s' h).elim
  | ok fl =>
    cases fl with
    | next => exact False.elim h
    | brk => exact False.elim h
    | cont => exact False.elim h
    | ret u =>
      obtain ⟨v, H', os, bare, un, hok', r', q⟩ := h
      have q' : v = .bl true := q
      subst q'
      obtain rfl : u = Value.bool true := r'
      refine ⟨rfl, OldK.of_keep fun b o e => ?_, os, bare⟩
      cases q : H b with
      | none => exact un.keep b o e q (by intro z; exact absurd (show b ∈ ([] : List Addr) from z) (by simp)) (by simp)
      | some u =>
        obtain ⟨_, ob, xs, rfl⟩ := hO b u q
        obtain ⟨e1, _⟩ := hok b _ q
        obtain ⟨e2, _⟩ := hok' b _ (un.frzs b ob _ q)
        rw [e] at e1; cases e1
        exact e2
theorem call_lawG (KX : K.In s₁.heap) (hns : s₁.heap.Ns mainGlobals mg) (hb : s₁.heap.Ns builtinsNs mb) (hbb : ∀ x : Str, x ≠ "__name__" → mb x = bootBuiltins x) (hlim : s₁.heap.NoLimit) (hg : s₁.gens = #[])
    (ha : s₁.heap.get? a = some { cls := .type "list", data := .seq vs.toArray }) (hi : IntsAre vs ns) (hl : ns.length ≤ sizeLine) (hr : Room k callerA)
    (F : ∀ base : Heap, K.In base → base.Ns mainGlobals mg → FnG P w K mg base CX k fa fd [x] sp) (hbind : ∀ (s : Shared) (u : Value), BindsTo s fd ⟨[u], []⟩ [(x, u)])
    (hsp : ∀ H : Hp, SqL K H a (ns.map V.int) → sp [.ref a] H (fun v _ => v = .bl true) fun _ _ _ => False)
    (hCX : ∀ H e s', CX [] H s₁ (fun _ _ _ => False) e s' → False) :
    codeAny (model P w) callerA (.call (.ref fa) ⟨[.ref a], []⟩) (fun r s' => r = .ok (.ret (.bool true)) ∧ OldK s₁.heap s'.heap ∧ s'.os = s₁.os ∧ AllBare s'.gens) s₁ := by
  have rv := vals_ints hi
  have lenV := hi.length
  cases hk : K.lookup a with
  | some o =>
    have e := KX a o hk
    rw [ha] at e
    cases e
    exact call_law1 KX hns hb hbb hlim hg ha hr F hbind (H := fun _ => none) (fun b u z => nomatch z) (fun b u z => nomatch z) (fun z => absurd rfl z)
      (hsp _ (.inr ⟨_, vs.toArray, _, hk, rfl, rfl, rfl, by rw [List.size_toArray, lenV]; exact hl, by simpa using rv⟩)) fun e s' => hCX _ e s'
  | none =>
    have at_ : ∀ b u, (if b = a then some (HO.frz { cls := .type "list", data := .seq vs.toArray } (.lst (ns.map V.int))) else none) = some u → b = a ∧ u = .frz { cls := .type "list", data := .seq vs.toArray } (.lst (ns.map V.int)) := fun b u z => by
      by_cases hb : b = a
      · rw [if_pos hb] at z; cases z; exact ⟨hb, rfl⟩
      · rw [if_neg hb] at z; cases z
    refine call_law1 KX hns hb hbb hlim hg ha hr F hbind (H := fun b => if b = a then some (.frz { cls := .type "list", data := .seq vs.toArray } (.lst (ns.map V.int))) else none) (fun b u z => ?_) (fun b u z => ?_) (fun _ => hk)
      (hsp _ (.inl (.inr ⟨{ cls := .type "list", data := .seq vs.toArray }, if_pos rfl⟩))) fun e s' => hCX _ e s'
    · obtain ⟨e1, e2⟩ := at_ b u z
      exact ⟨e1, _, _, e2⟩
    · obtain ⟨e1, e2⟩ := at_ b u z
      subst e1 e2
      exact ⟨ha, by rw [List.length_map]; exact hl, vs, _, rv, ha⟩
end
/-- a law by its promise -/
theorem walk_ofG {l : PySem.W.OpenLaw} {n k : Nat} {q : Program} {loose : List Str} {XP : (Str → Option Value) → Heap → Prop} {YP : World → Heap → Prop} {d : DefRec} {CX : World → CXT} {x : Str}
    (hn : l.most = some n) (hn2 : n ≤ sizeLine) (hdf : d.params.defaults = []) (hr : Room k callerA)
    (F : ∀ (w : World) (mg : Str → Option Value) (fa : Addr) (h : Heap), YP w h → h.Ns mainGlobals mg → mg d.name = some (.ref fa) →
      ∃ (K : PySem.W.Frag) (fd : FuncData) (sp : Sp), K.In h ∧ (∀ (s : Shared) (u : Value), BindsTo s fd ⟨[u], []⟩ [(x, u)]) ∧
        (∀ (H : Hp) (a : Addr) (ns : List Int), ns.length ≤ n → SqL K H a (ns.map V.int) → sp [.ref a] H (fun v _ => v = .bl true) fun _ _ _ => False) ∧
        ∀ base : Heap, K.In base → base.Ns mainGlobals mg → FnG l.prog w K mg base (CX w) k fa fd [x] sp)
    (hCX : ∀ (w : World) (H : Hp) (s : Shared) (e : Value) (s' : Shared), CX w [] H s (fun _ _ _ => False) e s' → False) :
    PySem.W.WalkO q loose XP YP l.row.toRowW d [] (fun f vs => PySem.call f vs) := by
  refine Att.attach_call hn hdf fun w s₀ s₁ mg mb fa o pm cd doc a vs ns G Y ho hd hcd hmg hobj hints hlen hg => ?_
  obtain ⟨K, fd, sp, KX, hb, hsp, hF⟩ := F w mg fa _ Y G.T.g hmg
  exact call_lawG KX G.T.g G.T.b G.T.builtins G.T.nolimit hg hobj hints (Nat.le_trans hlen hn2) hr hF hb (fun H hS => hsp H a ns hlen hS) fun H e s' => hCX w H s₁ e s'
theorem cx_false {P : Program} {w : World} {H : Hp} {s s' : Shared} {e : Value} (h : CX P w [] H s (fun _ _ _ => False) e s') : False := by
  obtain ⟨_, _, _, _, _, _, _, _, _, _, _, _, q⟩ := h
  exact q
end Cw
end

section
set_option Elab.async false
set_option linter.all false
set_option maxRecDepth 100000
set_option maxHeartbeats 4000000
/-! Cw26: a text by its rows. -/
namespace Cw
open PySem PySem.Spec PyProof.Rows L2

/-- a def of the text: its place among the terms, its datum, its term -/
structure Row where
  g : Nat
  d : He.DefD
  fn : Fn
def scopeOk (N P : List Str) (sc : Scope) : Bool := (match sc.kind with | .function => true | _ => false) && !sc.isCoroutine && !sc.isGenerator && decide N.Nodup && decide (N.take P.length = P) &&
  (P.all fun x => loc sc x) && (sc.names.all fun y => match y.2 with | .free => false | _ => true)
theorem scopeOk_ok {N P : List Str} {sc : Scope} (h : scopeOk N P sc = true) : FnScope N P sc := by
  obtain ⟨h, h7⟩ := ba h
  obtain ⟨h, h6⟩ := ba h
  obtain ⟨h, h5⟩ := ba h
  obtain ⟨h, h4⟩ := ba h
  obtain ⟨h, h3⟩ := ba h
  obtain ⟨h1, h2⟩ := ba h
  refine ⟨?_, by simpa using h2, by simpa using h3, of_decide_eq_true h4, of_decide_eq_true h5, fun x hx => loc_of (List.all_eq_true.mp h6 x hx), fun y hy e => ?_⟩
  · split at h1
    · assumption
    · cases h1
  · have q := List.all_eq_true.mp h7 y hy
    rw [e] at q
    cases q
def Row.ok (ck : Ck) (r : Row) : Bool := decide (r.d.at_ = (r.d.name, none)) && r.d.dfl.isEmpty && r.d.kwd.isEmpty && scopeOk r.fn.ns r.fn.ps r.d.scope && mSs ck r.fn.ns r.d.scope r.fn.body r.d.body
/-- parameters without defaults: how they bind -/
def Plain (params : Arguments) (ps : List Str) : Prop := ∀ (x qual : Str) (body : List Stmt) (scope : Scope) (kV doc pm : Value) (an : Option Addr) (cdv ct : Value) (l : List Value) (k : Nat), l.length = ps.length → k ≤ ps.length →
  bindArgs (PySem.W.fnOf x qual params body scope .none kV doc pm an cdv ct) ⟨l.take k, (ps.drop k).zip (l.drop k)⟩ = pure (ps.zip l)
/-- what is asked of the head -/
def faOf (ck : Ck) : List He.Fa := ck.free.map He.Fa.free ++ (ck.fns.map (fun p => He.Fa.glo p.2.1) ++ ck.cons.map fun p => match p.2 with
  | .int i => He.Fa.int p.1 i
  | .str z => He.Fa.str p.1 z
  | _ => He.Fa.free p.1)
def consOk (ck : Ck) : Bool := ck.cons.all fun p => match p.2 with
  | .int _ => true
  | .str _ => true
  | _ => false
/-! ### classes of exceptions -/
/-- their addresses, their fields -/
def csOf (ck : Ck) (K : PySem.W.Frag) : Cs := ⟨fun k => match ck.cls.find? fun p => decide (p.1 = k) with
  | some p => He.ga K p.2
  | none => 0, fun k => match ck.mks.find? fun m => decide (m.1 = k) with
  | some m => m.2.2
  | none => []⟩
def excCB (K : PySem.W.Frag) (C : Addr) : Bool := decide (PySem.W.findIn K (.ref C) "__getattribute__" = some (some (.builtin "BaseException.__getattribute__"))) && (decide (PySem.W.findIn K (.ref C) "__getattr__" = some none) && (decide (PySem.W.subIn K (.ref C) (.type "BaseException") = some true) && (PySem.W.hasDictIn K C && (decide (PySem.W.findIn K (.ref C) "__class__" = some (some (.builtin "object.__class__"))) &&
  (decide (PySem.W.specialIn K (.builtin "object.__class__") "__get__" = some (some (.builtin "getset_descriptor.__get__"))) && (decide (PySem.W.takesIn K (.builtin "object.__class__") = some true) && decide (PySem.W.mroIn K C (.type "object") = some true)))))))
theorem excCB_ok {K : PySem.W.Frag} {C : Addr} (h : excCB K C = true) : ExcC K C := by
  obtain ⟨h1, h⟩ := ba h
  obtain ⟨h2, h⟩ := ba h
  obtain ⟨h3, h⟩ := ba h
  obtain ⟨h4, h⟩ := ba h
  obtain ⟨h5, h⟩ := ba h
  obtain ⟨h6, h⟩ := ba h
  obtain ⟨h7, h8⟩ := ba h
  exact ⟨of_decide_eq_true h1, of_decide_eq_true h2, of_decide_eq_true h3, h4, of_decide_eq_true h5, of_decide_eq_true h6, of_decide_eq_true h7, of_decide_eq_true h8⟩
def gloB (K : PySem.W.Frag) (x : Str) (C : Addr) : Bool := decide (PySem.W.nsIn K mainGlobals x = some (some (.ref C)))
def twoB (ck : Ck) (K : PySem.W.Frag) (c : Cs) (p q : Nat) : Bool := decide (PySem.W.exmOne K (.ref (c.cls p)) (.ref (c.cls q)) = some (ck.sub.contains (p, q))) && decide (PySem.W.kitOne K (.ref (c.cls p)) (.ref (c.cls q)) = some (ck.sub.contains (p, q)))
def mkB (F : Str) (K : PySem.W.Frag) (C : Addr) : List Str → Bool
  | [] => Cx1.exc0B F K C
  | [f] => Cx1.exc1B F K C f
  | _ => false
def xcB (F : Str) (ck : Ck) (K : PySem.W.Frag) (c : Cs) : Bool :=
  (ck.cls.all fun p => gloB K p.2 (c.cls p.1) && (excCB K (c.cls p.1) && (xfB K (c.cls p.1) && ck.cls.all fun q => twoB ck K c p.1 q.1))) &&
  ck.mks.all fun m => gloB K m.2.1 (c.cls m.1) && (decide (c.fl m.1 = m.2.2) && ((m.2.2.all fun f => decide (PySem.W.findIn K (.ref (c.cls m.1)) f = some none)) && (xfB K (c.cls m.1) && mkB F K (c.cls m.1) m.2.2)))
theorem xcB_ok {ck : Ck} {P : Program} {K : PySem.W.Frag} {c : Cs} {h : Heap} {mg : Str → Option Value} (X : K.In h) (G : h.Ns mainGlobals mg) (top : (P.main.scope.names.lookup ("super" : Str)).isSome = false) (e : xcB P.main.file ck K c = true) : XcF ck c P K mg := by
  obtain ⟨e1, e2⟩ := ba e
  have a : ∀ p ∈ ck.cls, gloB K p.2 (c.cls p.1) = true ∧ ExcC K (c.cls p.1) ∧ XfC K (c.cls p.1) ∧ ∀ q ∈ ck.cls, twoB ck K c p.1 q.1 = true := fun p hp => by
    obtain ⟨h1, h⟩ := ba (List.all_eq_true.mp e1 p hp)
    obtain ⟨h2, h⟩ := ba h
    obtain ⟨h3, h4⟩ := ba h
    exact ⟨h1, excCB_ok h2, xfB_ok h3, List.all_eq_true.mp h4⟩
  have b : ∀ m ∈ ck.mks, gloB K m.2.1 (c.cls m.1) = true ∧ c.fl m.1 = m.2.2 ∧ (∀ f ∈ m.2.2, PySem.W.findIn K (.ref (c.cls m.1)) f = some none) ∧ XfC K (c.cls m.1) ∧ mkB P.main.file K (c.cls m.1) m.2.2 = true := fun m hm => by
    obtain ⟨h1, h⟩ := ba (List.all_eq_true.mp e2 m hm)
    obtain ⟨h2, h⟩ := ba h
    obtain ⟨h3, h⟩ := ba h
    obtain ⟨h4, h5⟩ := ba h
    exact ⟨h1, of_decide_eq_true h2, fun f hf => of_decide_eq_true (List.all_eq_true.mp h3 f hf), xfB_ok h4, h5⟩
  have glo : ∀ {x : Str} {C : Addr}, gloB K x C = true → mg x = some (.ref C) := fun z => PySem.W.mg_of X G (of_decide_eq_true z)
  refine ⟨fun p hp => glo (a p hp).1, fun k x f hm => ?_, fun k x hm => ?_, fun m hm => (b m hm).2.1, fun m hm => (b m hm).2.2.1, fun m hm => (b m hm).2.2.2.1, fun p hp => ⟨(a p hp).2.1, (a p hp).2.2.1⟩, fun p hp q hq => ?_⟩
  · obtain ⟨h1, _, _, _, h2⟩ := b _ hm
    exact ⟨glo h1, Cx1.exc1B_ok h2 top⟩
  · obtain ⟨h1, _, _, _, h2⟩ := b _ hm
    exact ⟨glo h1, Cx1.exc0B_ok h2 top⟩
  · obtain ⟨h1, h2⟩ := ba ((a p hp).2.2.2 q hq)
    exact ⟨of_decide_eq_true h1, of_decide_eq_true h2⟩
theorem xc_none {ck : Ck} {c : Cs} {P : Program} {K : PySem.W.Frag} {mg : Str → Option Value} (h1 : ck.cls = []) (h2 : ck.mks = []) : XcF ck c P K mg := by
  refine ⟨?_, ?_, ?_, ?_, ?_, ?_, ?_, ?_⟩ <;> simp [h1, h2]
/-! ### what is looked at behind the top -/
abbrev AlE : Type := He.AlD × Bool
def obsE (F : Str) (ck : Ck) (fn : List He.DefD) (K : PySem.W.Frag) : AlE := (He.obsD (faOf ck) fn K, xcB F ck K (csOf ck K))
def obsEG (n : Nat) (F : Str) (ck : Ck) (fn : List He.DefD) (g : Addr → Option Obj) : AlE := obsE F ck fn (He.frG g (cStatics :: He.asD g n))
def hookE (n : Nat) (F : Str) (ck : Ck) (fn : List He.DefD) : PySem.W.Hook where
  α := AlE
  obs := fun s => obsEG n F ck fn s.heap.get?
  val := fun _ => (He.valD fn, true)
  says := fun _ h => ∃ K : PySem.W.Frag, K.In h ∧ He.SaysD (faOf ck) fn K ∧ xcB F ck K (csOf ck K) = true
  of := fun _ _ e => ⟨_, He.frG_in, congrArg (fun z : AlE => z.1) e, congrArg (fun z : AlE => z.2) e⟩
  keeps := fun _ _ _ ⟨K, hK, c⟩ k => ⟨K, PySem.W.Frag.In.keeps hK k, c⟩
theorem obsEG_eq {n : Nat} {F : Str} {ck : Ck} {fn : List He.DefD} {g : Addr → Option Obj} {s : Shared} (h : ∀ a, g a = s.heap.get? a) : obsEG n F ck fn g = (hookE n F ck fn).obs s := by
  have e : g = s.heap.get? := funext h
  rw [e] <;> rfl
structure RowsOk (ck : Ck) (tb : Tb) (rows : List Row) : Prop where
  cons : consOk ck = true
  fns : ck.fns = rows.map fun r => (r.g, r.d.name, r.fn.ps)
  tb : ∀ r ∈ rows, tb r.g = some r.fn
  ok : ∀ r ∈ rows, r.ok ck = true
  plain : ∀ r ∈ rows, Plain r.d.params r.fn.ps
section
variable {ck : Ck} {tb : Tb} {rows : List Row} {K : PySem.W.Frag} {h : Heap} {mg : Str → Option Value}
theorem text_of {c' : Cs} {P : Program} (R : RowsOk ck tb rows) (X : K.In h) (G : h.Ns mainGlobals mg) (c : He.SaysD (faOf ck) (rows.map (·.d)) K) (xc : XcF ck c' P K mg) : Text ck c' P tb K mg := by
  refine ⟨fun x hx => ?_, fun x d hx => ?_, fun g x ps hg => ?_, xc⟩
  · obtain ⟨y, hy, e⟩ := List.any_eq_true.mp hx
    have e := of_decide_eq_true e
    subst e
    exact He.free_ok X G (c.facts (List.mem_append_left _ (List.mem_map_of_mem hy)))
  · obtain ⟨p, hp, e⟩ := List.any_eq_true.mp hx
    obtain ⟨e1, e2⟩ := ba e
    have e1 := of_decide_eq_true e1
    have e2 := D.beq_eq e2
    subst e1 e2
    have hf := c.facts (List.mem_append_right _ (List.mem_append_right _ (List.mem_map_of_mem (f := fun p : Str × D => match p.2 with
      | .int i => He.Fa.int p.1 i
      | .str z => He.Fa.str p.1 z
      | _ => He.Fa.free p.1) hp)))
    have hc := List.all_eq_true.mp R.cons p hp
    obtain ⟨x, d⟩ := p
    cases d with
    | int i => obtain ⟨t, e⟩ := He.int_ok X G (x := x) (i := i) hf; exact ⟨_, .int i, e, ⟨t, rfl⟩, fun _ _ => .int i⟩
    | str z => obtain ⟨t, e⟩ := He.str_ok X G (x := x) (z := z) hf; exact ⟨_, .str z, e, ⟨t, rfl⟩, fun _ _ => .str z⟩
    | _ => cases hc
  · rw [R.fns] at hg
    obtain ⟨r, hr, e⟩ := List.mem_map.mp hg
    cases e
    have ok := R.ok r hr
    obtain ⟨ok, h5⟩ := ba ok
    obtain ⟨ok, h4⟩ := ba ok
    obtain ⟨ok, h3⟩ := ba ok
    obtain ⟨h1, h2⟩ := ba ok
    have h1 := of_decide_eq_true h1
    obtain ⟨fd, F⟩ := c.defs (List.mem_map_of_mem hr)
    have e2 : r.d.dvs K = [] := by unfold He.DefD.dvs; rw [List.isEmpty_iff.mp h2]; rfl
    have e3 : r.d.kws K = [] := by unfold He.DefD.kws; rw [List.isEmpty_iff.mp h3]; rfl
    rw [e2, e3, h1] at F
    have hgl := He.glo_ok X G (c.facts (List.mem_append_right _ (List.mem_append_left _ (List.mem_map_of_mem (f := fun p : Nat × Str × List Str => He.Fa.glo p.2.1) (by rw [R.fns]; exact List.mem_map_of_mem (f := fun r : Row => (r.g, r.d.name, r.fn.ps)) hr)))))
    have F0 := F
    obtain ⟨oc, od, dV, kV, doc, pm, an, cdv, ct, osl, rfl, lk, hcd, hD, hK⟩ := F.ex
    rcases hD with ⟨_, rfl⟩ | ⟨e, _⟩
    · refine ⟨_, _, ⟨⟨r.fn, r.d.name, r.d.qual, r.d.params, r.d.body, r.d.scope, R.tb r hr, rfl, F0, scopeOk_ok h4, h5⟩, hgl, fun s us ws _ hl => ?_, fun p ep s u => ?_⟩⟩
      · have q := R.plain r hr r.d.name r.d.qual r.d.body r.d.scope kV doc pm an cdv ct (us ++ ws) us.length (by rw [List.length_append]; exact hl) (by omega)
        rw [List.take_left, List.drop_left] at q
        exact .of_eq q
      have q := R.plain r hr r.d.name r.d.qual r.d.body r.d.scope kV doc pm an cdv ct [u] 1 (by rw [ep]; rfl) (by rw [ep]; exact Nat.le_refl _)
      rw [ep] at q
      exact .of_eq q
    · exact absurd rfl e
/-- a law, by its rows and a run that hands back True -/
theorem law_of {P : Program} {w : World} {c : Cs} {fa : Addr} {g k : Nat} {x p : Str} (R : RowsOk ck tb rows) (X : K.In h) (G : h.Ns mainGlobals mg) (c' : He.SaysD (faOf ck) (rows.map (·.d)) K) (hg : (g, x, [p]) ∈ ck.fns) (hfa : mg x = some (.ref fa)) (xc : XcF ck c P K mg)
    (hrun : ∀ ns : List Int, ns.length ≤ 63 → ∃ h', run tb k g [.sc (ns.map D.int)] [] = .ok (.d (.bl true)) h') :
    ∃ (K : PySem.W.Frag) (fd : FuncData) (sp : Sp), K.In h ∧ (∀ (s : Shared) (u : Value), BindsTo s fd ⟨[u], []⟩ [(p, u)]) ∧
        (∀ (H : Hp) (a : Addr) (ns : List Int), ns.length ≤ 63 → SqL K H a (ns.map V.int) → sp [.ref a] H (fun v _ => v = .bl true) fun _ _ _ => False) ∧
        ∀ base : Heap, K.In base → base.Ns mainGlobals mg → FnG P w K mg base (CX P w) (k + 1) fa fd [p] sp := by
  have T := text_of R X G c' xc
  obtain ⟨fa', fd, d⟩ := T.fns g x [p] hg
  have e := hfa.symm.trans d.mg
  cases e
  exact ⟨K, fd, spF c tb K k g, X, d.one p rfl, fun H a ns hl q => law_sp (hrun ns hl) q, fun base _ _ => fns_ok T k d⟩
end
end Cw
end

section
set_option Elab.async false
set_option linter.all false
set_option maxRecDepth 100000
set_option maxHeartbeats 4000000
/-! Cw27: the evaluator grows with its call function. -/
namespace Cw
open PySem PySem.Spec PyProof.Rows L2

/-- stuck, or the same -/
def RLe {α : Type} (r r' : R α) : Prop := r = .stuck ∨ r = r'
def FLe (r r' : RF) : Prop := r = .stuck ∨ r = r'
section
variable {α β : Type}
theorem RLe.rfl {r : R α} : RLe r r := .inr _root_.rfl
theorem FLe.rfl {r : RF} : FLe r r := .inr _root_.rfl
theorem RLe.bind {r r' : R α} {f f' : α → Hh → R β} (h : RLe r r') (hf : ∀ a h, RLe (f a h) (f' a h)) : RLe (r.bind f) (r'.bind f') := by
  rcases h with h | h
  · subst h; exact .inl _root_.rfl
  · subst h
    cases r with
    | ok a h => exact hf a h
    | exc x h => exact .rfl
    | stuck => exact .rfl
theorem RLe.noX {r r' : R α} (h : RLe r r') : RLe r.noX r'.noX := by
  rcases h with h | h
  · subst h; exact .inl _root_.rfl
  · subst h; exact .rfl
theorem RLe.ok {r r' : R α} (h : RLe r r') {a : α} {k : Hh} (e : r = .ok a k) : r' = .ok a k := by
  rcases h with h | h
  · rw [h] at e; cases e
  · rw [← h]; exact e
theorem FLe.of {r r' : R α} {σ : Sg} {f f' : α → Hh → RF} (h : RLe r r') (hf : ∀ a h, FLe (f a h) (f' a h)) : FLe (RF.of r σ f) (RF.of r' σ f') := by
  rcases h with h | h
  · subst h; exact .inl _root_.rfl
  · subst h
    cases r with
    | ok a h => exact hf a h
    | exc x h => exact .rfl
    | stuck => exact .rfl
end
abbrev CF := Bool → Nat → List D → Hh → R RV
def CLe (c c' : CF) : Prop := ∀ m g xs h, RLe (callOp c m g xs h) (callOp c' m g xs h)
theorem call_le {c c' : CF} (L : CLe c c') (m : Bool) (g : Nat) (xs : List D) (h : Hh) : RLe (callOp c m g xs h) (callOp c' m g xs h) := L m g xs h
theorem cle_of {c c' : CF} (L : ∀ m g xs h, RLe (c m g xs h) (c' m g xs h)) : CLe c c' := fun m g xs h => by
  unfold callOp
  cases m with
  | true => exact L true g xs h
  | false =>
    show RLe (if D.pures xs then match c false g xs [] with
      | .ok rv h1 => R.ofO (unbox rv h1) h
      | .exc x _ => if D.pures x.as then .exc x h else .stuck
      | .stuck => .stuck
    else .stuck) (if D.pures xs then match c' false g xs [] with
      | .ok rv h1 => R.ofO (unbox rv h1) h
      | .exc x _ => if D.pures x.as then .exc x h else .stuck
      | .stuck => .stuck
    else .stuck)
    by_cases hp : D.pures xs = true
    · rw [if_pos hp, if_pos hp]
      rcases L false g xs [] with e | e
      · rw [e]; exact .inl rfl
      · rw [e]; exact .rfl
    · rw [if_neg hp]; exact .inl rfl
theorem turns_le {t : I} {f f' e e' : Sg → Hh → R RV} (hf : ∀ σ h, RLe (f σ h) (f' σ h)) (he : ∀ σ h, RLe (e σ h) (e' σ h)) (s : Src) (σ : Sg) : ∀ (xs : List D) (i : Nat) (h : Hh), RLe (turns t f e s σ xs i h) (turns t f' e' s σ xs i h)
  | [], i, h => .rfl
  | x :: r, i, h => by
    unfold turns
    cases s.cur h i x with
    | none => exact .rfl
    | some y =>
      simp only
      cases putT t y σ with
      | none => exact .rfl
      | some σ1 =>
        simp only
        refine RLe.bind (hf _ _).noX fun b h1 => ?_
        cases b with
        | d d =>
          cases d with
          | bl b =>
            cases b with
            | true =>
              refine RLe.bind (he _ _).noX fun y h2 => ?_
              cases y.toD with
              | none => exact .rfl
              | some y => exact RLe.bind (turns_le hf he s σ r (i + 1) h2) fun _ _ => .rfl
            | false => exact turns_le hf he s σ r (i + 1) h1
          | _ => exact .rfl
        | _ => exact .rfl
theorem inner_le {t : I} {e e' : Sg → Hh → R RV} (he : ∀ σ h, RLe (e σ h) (e' σ h)) (σ : Sg) : ∀ (xs : List D) (h : Hh), RLe (inner t e σ xs h) (inner t e' σ xs h)
  | [], h => .rfl
  | x :: r, h => by
    unfold inner
    cases putT t x σ with
    | none => exact .rfl
    | some σ1 =>
      simp only
      refine RLe.bind (he _ _).noX fun v h1 => ?_
      cases v.toD with
      | none => exact .rfl
      | some d => exact RLe.bind (inner_le he σ r h1) fun _ _ => .rfl
theorem few_le {k : Nat} {α : Type} {r r' : R α} (h : RLe r r') : RLe (fewR k r) (fewR k r') := by
  unfold fewR
  by_cases q : k < 4000
  · rw [if_pos q, if_pos q]; exact h
  · rw [if_neg q]; exact .inl rfl
theorem inR_le {t : I} {e e' : Sg → Hh → R RV} (he : ∀ σ h, RLe (e σ h) (e' σ h)) {σ : Sg} {ds : List D} {h : Hh} : RLe (inR t e σ ds h) (inR t e' σ ds h) := by
  unfold inR
  cases rngOp ds with
  | none => exact .rfl
  | some ys => exact few_le (inner_le he σ ys h)
theorem outer_le {t : I} {b b' : Sg → Hh → R (List D)} (hb : ∀ σ h, RLe (b σ h) (b' σ h)) (s : Src) (σ : Sg) : ∀ (xs : List D) (i : Nat) (h : Hh), RLe (outer t b s σ xs i h) (outer t b' s σ xs i h)
  | [], i, h => .rfl
  | x :: r, i, h => by
    unfold outer
    cases s.cur h i x with
    | none => exact .rfl
    | some y =>
      simp only
      cases putT t y σ with
      | none => exact .rfl
      | some σ1 =>
        simp only
        exact RLe.bind (hb _ _).noX fun ys h1 => RLe.bind (outer_le hb s σ r (i + 1) h1) fun _ _ => .rfl
section
variable {c c' : CF} (L : CLe c c')
include L
mutual
theorem ev_le : ∀ (e : I) (σ : Sg) (h : Hh), RLe (ev c e σ h) (ev c' e σ h)
  | .v _, _, _ => .rfl
  | .c _, _, _ => .rfl
  | .g _ _, _, _ => .rfl
  | .no, _, _ => .rfl
  | .tup es, σ, h => RLe.bind (evs_le es σ h) fun _ _ => .rfl
  | .lst es, σ, h => RLe.bind (evs_le es σ h) fun _ _ => .rfl
  | .dct es, σ, h => RLe.bind (evs_le es σ h) fun _ _ => .rfl
  | .lrg _ es, σ, h => RLe.bind (evs_le es σ h) fun _ _ => .rfl
  | .rcmp n a b, σ, h => by
    unfold ev
    refine RLe.bind (ev_le a σ h) fun x h => ?_
    cases x.pd h with
    | none => exact .rfl
    | some p =>
      simp only
      by_cases hp : rpOk p = true
      · rw [if_pos hp, if_pos hp]
        exact RLe.bind (ev_le b σ h) fun _ _ => .rfl
      · rw [if_neg hp]; exact .inl rfl
  | .bin _ a b, σ, h => RLe.bind (ev_le a σ h) fun _ h => RLe.bind (ev_le b σ h) fun _ _ => .rfl
  | .neg a, σ, h => RLe.bind (ev_le a σ h) fun _ _ => .rfl
  | .nt a, σ, h => RLe.bind (ev_le a σ h) fun _ _ => .rfl
  | .and es, σ, h => eva_le es σ h
  | .or es, σ, h => evo_le es σ h
  | .cmp _ a b, σ, h => RLe.bind (ev_le a σ h) fun _ h => RLe.bind (ev_le b σ h) fun _ _ => .rfl
  | .chn o p a b d, σ, h => by
    unfold ev
    refine RLe.bind (ev_le a σ h) fun x h => RLe.bind (ev_le b σ h) fun y h => ?_
    cases cmpOp o x y h with
    | none => exact .rfl
    | some k => cases k <;> first | exact .rfl | exact RLe.bind (ev_le d σ h) fun _ _ => .rfl
  | .chn3 o p q a b d e, σ, h => by
    unfold ev
    refine RLe.bind (ev_le a σ h) fun x h => RLe.bind (ev_le b σ h) fun y h => ?_
    cases cmpOp o x y h with
    | none => exact .rfl
    | some k =>
      cases k with
      | false => exact .rfl
      | true =>
        refine RLe.bind (ev_le d σ h) fun z h => ?_
        cases cmpOp p y z h with
        | none => exact .rfl
        | some k => cases k <;> first | exact .rfl | exact RLe.bind (ev_le e σ h) fun _ _ => .rfl
  | .ife d a b, σ, h => by
    unfold ev
    refine RLe.bind (ev_le d σ h) fun x h => ?_
    cases x with
    | d y =>
      cases y with
      | bl k => cases k <;> first | exact ev_le a σ h | exact ev_le b σ h
      | _ => exact .rfl
    | _ => exact .rfl
  | .ix a i, σ, h => RLe.bind (ev_le a σ h) fun _ h => RLe.bind (ev_le i σ h) fun _ _ => .rfl
  | .sl a l r, σ, h => by
    unfold ev
    refine RLe.bind (ev_le a σ h) fun x h => RLe.bind (ev_le l σ h) fun y h => ?_
    cases bound l.isNo y with
    | none => exact .rfl
    | some _ => exact RLe.bind (ev_le r σ h) fun _ _ => .rfl
  | .rev a, σ, h => RLe.bind (ev_le a σ h) fun _ _ => .rfl
  | .call m f _ es _ ks, σ, h => RLe.bind (evs_le es σ h) fun _ h => RLe.bind (evs_le ks σ h) fun _ h => call_le L m f _ h
  | .bi _ es, σ, h => RLe.bind (evr_le es σ h) fun _ _ => .rfl
  | .isi a _, σ, h => RLe.bind (ev_le a σ h) fun _ _ => .rfl
  | .mth _ o es, σ, h => by
    unfold ev
    refine RLe.bind (ev_le o σ h) fun x h => ?_
    by_cases hl : lstAt x h = true
    · rw [if_pos hl, if_pos hl]; exact RLe.bind (evs_le es σ h) fun _ _ => .rfl
    · rw [if_neg hl]; exact .inl rfl
  | .mut e, σ, h => RLe.bind (ev_le e σ h) fun _ _ => .rfl
  | .lc e t i d w, σ, h => RLe.bind (evi_le i σ h) fun _ _ => RLe.bind (turns_le (fun σ h => ev_le d σ h) (fun σ h => ev_le e σ h) _ _ _ _ _) fun _ _ => .rfl
  | .lc2 e t i t2 es2 w w2, σ, h => RLe.bind (evi_le i σ h) fun _ _ => few_le (RLe.bind (outer_le (fun σ h => RLe.bind (evs_le es2 σ h) fun _ _ => inR_le fun σ h => ev_le e σ h) _ _ _ _ _) fun _ _ => .rfl)
  | .it _, _, _ => .rfl
  | .rng _, _, _ => .rfl
  | .enum _, _, _ => .rfl
  | .zip _ _, _, _ => .rfl
theorem evs_le : ∀ (es : List I) (σ : Sg) (h : Hh), RLe (evs c es σ h) (evs c' es σ h)
  | [], _, _ => .rfl
  | e :: es, σ, h => by
    unfold evs
    refine RLe.bind (ev_le e σ h) fun x h => ?_
    cases x.toD with
    | none => exact .rfl
    | some d => exact RLe.bind (evs_le es σ h) fun _ _ => .rfl
theorem eva_le : ∀ (es : List I) (σ : Sg) (h : Hh), RLe (eva c es σ h) (eva c' es σ h)
  | [], _, _ => .rfl
  | [e], σ, h => ev_le e σ h
  | e :: e2 :: r, σ, h => by
    unfold eva
    refine RLe.bind (ev_le e σ h) fun x h => ?_
    cases x with
    | d y =>
      cases y with
      | bl k => cases k <;> first | exact eva_le (e2 :: r) σ h | exact .rfl
      | _ => exact .rfl
    | _ => exact .rfl
theorem evo_le : ∀ (es : List I) (σ : Sg) (h : Hh), RLe (evo c es σ h) (evo c' es σ h)
  | [], _, _ => .rfl
  | [e], σ, h => ev_le e σ h
  | e :: e2 :: r, σ, h => by
    unfold evo
    refine RLe.bind (ev_le e σ h) fun x h => ?_
    cases x with
    | d y =>
      cases y with
      | bl k => cases k <;> first | exact evo_le (e2 :: r) σ h | exact .rfl
      | _ => exact .rfl
    | _ => exact .rfl
theorem evr_le : ∀ (es : List I) (σ : Sg) (h : Hh), RLe (evr c es σ h) (evr c' es σ h)
  | [], _, _ => .rfl
  | e :: es, σ, h => RLe.bind (ev_le e σ h) fun _ h => RLe.bind (evr_le es σ h) fun _ _ => .rfl
theorem evi_le : ∀ (i : I) (σ : Sg) (h : Hh), RLe (evi c i σ h) (evi c' i σ h)
  | .it e, σ, h => RLe.bind (ev_le e σ h) fun _ _ => .rfl
  | .rng es, σ, h => RLe.bind (evs_le es σ h) fun _ _ => .rfl
  | .enum e, σ, h => RLe.bind (ev_le e σ h) fun _ _ => .rfl
  | .zip a b, σ, h => RLe.bind (ev_le a σ h) fun _ h => RLe.bind (ev_le b σ h) fun _ _ => .rfl
  | .v _, _, _ => .rfl
  | .c _, _, _ => .rfl
  | .g _ _, _, _ => .rfl
  | .no, _, _ => .rfl
  | .tup _, _, _ => .rfl
  | .lst _, _, _ => .rfl
  | .dct _, _, _ => .rfl
  | .lrg _ _, _, _ => .rfl
  | .rcmp _ _ _, _, _ => .rfl
  | .bin _ _ _, _, _ => .rfl
  | .neg _, _, _ => .rfl
  | .nt _, _, _ => .rfl
  | .and _, _, _ => .rfl
  | .or _, _, _ => .rfl
  | .cmp _ _ _, _, _ => .rfl
  | .chn _ _ _ _ _, _, _ => .rfl
  | .chn3 _ _ _ _ _ _ _, _, _ => .rfl
  | .ife _ _ _, _, _ => .rfl
  | .ix _ _, _, _ => .rfl
  | .sl _ _ _, _, _ => .rfl
  | .rev _, _, _ => .rfl
  | .call _ _ _ _ _ _, _, _ => .rfl
  | .bi _ _, _, _ => .rfl
  | .isi _ _, _, _ => .rfl
  | .mth _ _ _, _, _ => .rfl
  | .mut _, _, _ => .rfl
  | .lc _ _ _ _ _, _, _ => .rfl
  | .lc2 _ _ _ _ _ _ _, _, _ => .rfl
end
theorem tgt_le : ∀ (t : I) (d : D) (σ : Sg) (h : Hh), RLe (tgt c t d σ h) (tgt c' t d σ h) := fun t d σ h => by
  cases t <;> first | exact .rfl | exact RLe.bind (ev_le L _ σ h) fun _ h => RLe.bind (ev_le L _ σ h) fun _ _ => .rfl
theorem tgts_le : ∀ (ts : List I) (ds : List D) (σ : Sg) (h : Hh), RLe (tgts c ts ds σ h) (tgts c' ts ds σ h)
  | [], [], _, _ => .rfl
  | t :: ts, d :: ds, σ, h => RLe.bind (tgt_le L t d σ h) fun σ h => tgts_le ts ds σ h
  | [], _ :: _, _, _ => .rfl
  | _ :: _, [], _, _ => .rfl
theorem asg_le (t : I) (d : D) (σ : Sg) (h : Hh) : RLe (asg c t d σ h) (asg c' t d σ h) := by
  cases t with
  | tup ts => cases d <;> first | exact .rfl | exact tgts_le L ts _ σ h
  | v i => exact .rfl
  | ix o i => cases d <;> exact tgt_le L (.ix o i) _ σ h
  | _ => exact .rfl
omit L in
theorem forL_le {t : I} {b b' : Sg → Hh → RF} (hb : ∀ σ h, FLe (b σ h) (b' σ h)) (s : Src) : ∀ (xs : List D) (i : Nat) (σ : Sg) (h : Hh), FLe (forL t b s xs i σ h) (forL t b' s xs i σ h)
  | [], i, σ, h => .rfl
  | x :: r, i, σ, h => by
    unfold forL
    cases s.cur h i x with
    | none => exact .rfl
    | some y =>
      simp only
      cases putT t y σ with
      | none => exact .rfl
      | some σ1 =>
        simp only
        rcases hb σ1 h with e | e
        · rw [e]; exact .inl rfl
        · rw [← e]
          cases b σ1 h with
          | stuck => exact .rfl
          | exc _ _ _ => exact .rfl
          | ok f h1 => cases f <;> first | exact .rfl | exact forL_le hb s r (i + 1) _ _
omit L in
theorem whL_le {f f' : Sg → Hh → R RV} {b b' : Sg → Hh → RF} (hf : ∀ σ h, RLe (f σ h) (f' σ h)) (hb : ∀ σ h, FLe (b σ h) (b' σ h)) : ∀ (k : Nat) (σ : Sg) (h : Hh), FLe (whL f b k σ h) (whL f' b' k σ h)
  | 0, _, _ => .rfl
  | k + 1, σ, h => by
    unfold whL
    refine FLe.of (hf σ h) fun x h => ?_
    cases x with
    | d y =>
      cases y with
      | bl q =>
        cases q with
        | false => exact .rfl
        | true =>
          simp only
          rcases hb σ h with e | e
          · rw [e]; exact .inl rfl
          · rw [← e]
            cases b σ h with
            | stuck => exact .rfl
            | exc _ _ _ => exact .rfl
            | ok f h1 => cases f <;> first | exact .rfl | exact whL_le hf hb k _ _
      | _ => exact .rfl
    | _ => exact .rfl
mutual
theorem ex_le : ∀ (s : S) (σ : Sg) (h : Hh), FLe (ex c s σ h) (ex c' s σ h)
  | .set t e, σ, h => by
    unfold ex
    refine FLe.of (ev_le L e σ h) fun x h => ?_
    cases x.toD with
    | none => exact .rfl
    | some d => exact FLe.of (asg_le L t d σ h).noX fun _ _ => .rfl
  | .aug i o e, σ, h => by
    unfold ex
    cases σ[i]? with
    | none => exact .rfl
    | some od =>
      cases od with
      | none => exact .rfl
      | some d => cases d <;> first | exact .rfl | exact FLe.of (ev_le L e σ h) fun _ _ => .rfl
  | .exp e, σ, h => FLe.of (ev_le L e σ h) fun _ _ => .rfl
  | .ret e, σ, h => FLe.of (ev_le L e σ h) fun _ _ => .rfl
  | .ret0, _, _ => .rfl
  | .ifs e a b, σ, h => by
    unfold ex
    refine FLe.of (ev_le L e σ h) fun x h => ?_
    cases x with
    | d y =>
      cases y with
      | bl k => cases k <;> first | exact exs_le a σ h | exact exs_le b σ h
      | _ => exact .rfl
    | _ => exact .rfl
  | .fr t i b, σ, h => FLe.of (evi_le L i σ h) fun s h => forL_le (fun σ h => exs_le b σ h) s _ _ _ _
  | .wh k e b, σ, h => whL_le (fun σ h => ev_le L e σ h) (fun σ h => exs_le b σ h) k σ h
  | .pass, _, _ => .rfl
  | .brk, _, _ => .rfl
  | .cnt, _, _ => .rfl
  | .nev, _, _ => .rfl
  | .zret i a b q e t d w, σ, h => by
    unfold ex
    by_cases hi : i < σ.length
    · rw [if_pos hi, if_pos hi]
      exact FLe.of (evi_le L (.zip a b) σ h) fun s h => FLe.of (RLe.bind (turns_le (fun σ h => ev_le L d σ h) (fun σ h => ev_le L e σ h) _ _ _ _ _) fun _ _ => .rfl) fun _ _ => .rfl
    · rw [if_neg hi]; exact .inl rfl
  | .zfr i a b t body, σ, h => by
    unfold ex
    by_cases hi : i < σ.length
    · rw [if_pos hi, if_pos hi]
      exact FLe.of (evi_le L (.zip a b) σ h) fun s h => forL_le (fun σ h => exs_le body σ h) s _ _ _ _
    · rw [if_neg hi]; exact .inl rfl
  | .rs k x es, σ, h => by
    unfold ex
    exact FLe.of (evs_le L es σ h) fun _ _ => .rfl
  | .tr b ks no x i hd, σ, h => by
    unfold ex
    rcases exs_le b σ h with e | e
    · rw [e]; exact .inl rfl
    · rw [e]; exact .rfl
theorem exs_le : ∀ (s : List S) (σ : Sg) (h : Hh), FLe (exs c s σ h) (exs c' s σ h)
  | [], _, _ => .rfl
  | s :: r, σ, h => by
    unfold exs
    rcases ex_le s σ h with e | e
    · rw [e]; exact .inl rfl
    · rw [← e]
      cases ex c s σ h with
      | stuck => exact .rfl
      | exc _ _ _ => exact .rfl
      | ok f h1 => cases f <;> first | exact .rfl | exact exs_le r _ _
end
end
/-- a def, one level up, with another call function below -/
def run1 (tb : Tb) (c : CF) (f : Nat) (xs : List D) (h : Hh) : R RV := match tb f with
  | none => .stuck
  | some fn => if xs.length = fn.ps.length then
      match exs c fn.body (xs.map some ++ List.replicate (fn.ns.length - xs.length) none) h with
      | .ok (.rt v) h => .ok v h
      | .ok (.nx _) h => .ok (.d .non) h
      | .exc x _ h => .exc x h
      | _ => .stuck
    else .stuck
theorem run_succ (tb : Tb) (n f : Nat) (xs : List D) (h : Hh) : run tb (n + 1) f xs h = run1 tb (runB tb n) f xs h := rfl
theorem run1_le {tb : Tb} {c c' : CF} (L : CLe c c') (f : Nat) (xs : List D) (h : Hh) : RLe (run1 tb c f xs h) (run1 tb c' f xs h) := by
  unfold run1
  cases tb f with
  | none => exact .rfl
  | some fn =>
    simp only
    by_cases hl : xs.length = fn.ps.length
    · rw [if_pos hl, if_pos hl]
      rcases exs_le L fn.body (xs.map some ++ List.replicate (fn.ns.length - xs.length) none) h with e | e
      · rw [e]; exact .inl rfl
      · rw [← e]; exact .rfl
    · rw [if_neg hl]; exact .inl rfl
theorem run_le {tb : Tb} : ∀ {m n : Nat}, m ≤ n → ∀ f xs h, RLe (run tb m f xs h) (run tb n f xs h)
  | 0, n, _ => fun _ _ _ => .inl rfl
  | m + 1, 0, h => absurd h (by omega)
  | m + 1, n + 1, h => fun f xs k => by
    rw [run_succ, run_succ]
    exact run1_le (cle_of fun _ g ys h' => run_le (Nat.le_of_succ_le_succ h) g ys h') f xs k
/-- what a shallow run yields a deeper one yields, too -/
theorem run_more {tb : Tb} {m n f : Nat} {xs : List D} {h h' : Hh} {rv : RV} (le : m ≤ n) (e : run tb m f xs h = .ok rv h') : run tb n f xs h = .ok rv h' := (run_le le f xs h).ok e
/-- a pure call yields this, over any heap -/
def Pc (tb : Tb) (n f : Nat) (xs : List D) (rv : RV) : Prop := ∀ h, callOp (runB tb n) false f xs h = .ok rv h
theorem Pc.more {tb : Tb} {m n f : Nat} {xs : List D} {rv : RV} (le : m ≤ n) (e : Pc tb m f xs rv) : Pc tb n f xs rv := fun h => (cle_of (fun _ g ys h' => run_le le g ys h') false f xs h).ok (e h)
theorem Pc.of {tb : Tb} {n f : Nat} {xs : List D} {rv rv' : RV} {h' : Hh} (hp : D.pures xs = true) (e : run tb n f xs [] = .ok rv h') (u : unbox rv h' = some rv') : Pc tb n f xs rv' := fun h => by
  show (if D.pures xs then match run tb n f xs [] with
    | .ok rv h1 => R.ofO (unbox rv h1) h
    | .exc x _ => if D.pures x.as then .exc x h else .stuck
    | .stuck => .stuck
  else .stuck) = _
  rw [if_pos hp, e]
  show R.ofO (unbox rv h') h = _
  rw [u]; rfl
/-- calls looked up in a table: the def's index, its arguments, what it yields -/
abbrev Memo := List (Nat × List D × RV)
def memo (l : Memo) : CF := fun m f xs _ => if m then .stuck else match l.find? fun p => decide (p.1 = f) && D.beqsA p.2.1 xs with
  | some p => (match unbox p.2.2 [] with
    | some rv => .ok rv []
    | none => .stuck)
  | none => .stuck
theorem unbox_nil {rv rv' : RV} (e : unbox rv [] = some rv') : rv' = rv ∧ unbox rv' [] = some rv' := by
  have plain : ∀ d : D, (if d.pure then some (RV.d d) else none) = some rv' → rv' = .d d ∧ (if d.pure then some (RV.d d) else none) = some (RV.d d) := fun d e => by
    obtain ⟨h1, h2⟩ := if_some e
    exact ⟨h2.symm, if_pos h1⟩
  cases rv with
  | d d =>
    cases d with
    | ref n => cases e
    | non => obtain ⟨h1, h2⟩ := plain .non e; subst h1; exact ⟨rfl, h2⟩
    | bl b => obtain ⟨h1, h2⟩ := plain (.bl b) e; subst h1; exact ⟨rfl, h2⟩
    | int b => obtain ⟨h1, h2⟩ := plain (.int b) e; subst h1; exact ⟨rfl, h2⟩
    | str b => obtain ⟨h1, h2⟩ := plain (.str b) e; subst h1; exact ⟨rfl, h2⟩
    | tup b => obtain ⟨h1, h2⟩ := plain (.tup b) e; subst h1; exact ⟨rfl, h2⟩
    | fl b => obtain ⟨h1, h2⟩ := plain (.fl b) e; subst h1; exact ⟨rfl, h2⟩
    | sc b => obtain ⟨h1, h2⟩ := plain (.sc b) e; subst h1; exact ⟨rfl, h2⟩
  | lst xs => obtain ⟨h1, h2⟩ := if_some (show (if D.pures xs then some (RV.lst xs) else none) = some rv' from e); subst h2; exact ⟨rfl, if_pos h1⟩
  | dct _ => cases e
theorem memo_le {tb : Tb} {n : Nat} {l : Memo} (hl : ∀ p ∈ l, Pc tb n p.1 p.2.1 p.2.2) : CLe (memo l) (runB tb n) := fun m f xs h => by
  cases m with
  | true => exact .inl rfl
  | false =>
    by_cases hp : D.pures xs = true
    · have e0 : callOp (memo l) false f xs h = (match memo l false f xs [] with
        | .ok rv h1 => R.ofO (unbox rv h1) h
        | .exc x _ => if D.pures x.as then .exc x h else .stuck
        | .stuck => .stuck) := if_pos hp
      rw [e0]
      cases q : l.find? fun p => decide (p.1 = f) && D.beqsA p.2.1 xs with
      | none =>
        have e1 : memo l false f xs [] = .stuck := by
          show (match l.find? fun p => decide (p.1 = f) && D.beqsA p.2.1 xs with | some p => _ | none => R.stuck) = _
          rw [q]
        rw [e1]; exact .inl rfl
      | some p =>
        have hm := List.mem_of_find?_eq_some q
        have hq := List.find?_some q
        obtain ⟨e2, e3⟩ := ba hq
        have e2 := of_decide_eq_true e2
        have e3 := D.beqsA_eq e3
        have e1 : memo l false f xs [] = (match unbox p.2.2 [] with
          | some rv => .ok rv []
          | none => .stuck) := by
          show (match l.find? fun p => decide (p.1 = f) && D.beqsA p.2.1 xs with | some p => _ | none => R.stuck) = _
          rw [q]
        rw [e1]
        cases u : unbox p.2.2 [] with
        | none => exact .inl rfl
        | some rv =>
          obtain ⟨e4, e5⟩ := unbox_nil u
          refine .inr ?_
          show R.ofO (unbox rv []) h = _
          rw [e5, e4]
          have := hl p hm h
          rw [e2, e3] at this
          exact this.symm
    · have e0 : callOp (memo l) false f xs h = .stuck := if_neg hp
      rw [e0]; exact .inl rfl
/-- a def's body run over a table -/
theorem Pc.memo {tb : Tb} {n f : Nat} {l : Memo} {xs : List D} {rv : RV} (hl : ∀ p ∈ l, Pc tb n p.1 p.2.1 p.2.2) (hp : D.pures xs = true)
    (e : (match run1 tb (memo l) f xs [] with | .ok r h => unbox r h | _ => none) = some rv) : Pc tb (n + 1) f xs rv := by
  cases q : run1 tb (Cw.memo l) f xs [] with
  | stuck => rw [q] at e; cases e
  | exc _ _ => rw [q] at e; cases e
  | ok r h' =>
    rw [q] at e
    exact Pc.of hp (by rw [run_succ]; exact (run1_le (memo_le hl) f xs []).ok q) e
/-- the same values -/
def rvB (a b : RV) : Bool := match a, b with
  | .d x, .d y => D.beqA x y
  | .lst x, .lst y => D.beqsA x y
  | _, _ => false
theorem rvB_eq {a b : RV} (h : rvB a b = true) : a = b := by
  cases a with
  | d x => cases b with
    | d y => rw [D.beqA_eq (show D.beqA x y = true from h)]
    | _ => cases h
  | lst x => cases b with
    | lst y => rw [D.beqsA_eq (show D.beqsA x y = true from h)]
    | _ => cases h
  | dct _ => cases b <;> cases h
/-- a pure call, by its run -/
def pcB (tb : Tb) (n f : Nat) (xs : List D) (rv : RV) : Bool := D.pures xs && match run tb n f xs [] with
  | .ok r h => (match unbox r h with
    | some r => rvB r rv
    | none => false)
  | _ => false
theorem Pc.chk {tb : Tb} {n f : Nat} {xs : List D} {rv : RV} (h : pcB tb n f xs rv = true) : Pc tb n f xs rv := by
  obtain ⟨h1, h2⟩ := ba h
  cases e : run tb n f xs [] with
  | stuck => rw [e] at h2; cases h2
  | exc _ _ => rw [e] at h2; cases h2
  | ok r h' =>
    rw [e] at h2
    cases u : unbox r h' with
    | none => simp only [u] at h2; cases h2
    | some r' =>
      simp only [u] at h2
      exact Pc.of h1 e (by rw [u, rvB_eq h2])
/-- a pure call, by its body over a table of calls -/
def pmB (tb : Tb) (l : Memo) (f : Nat) (xs : List D) (rv : RV) : Bool := D.pures xs && match run1 tb (memo l) f xs [] with
  | .ok r h => (match unbox r h with
    | some r => rvB r rv
    | none => false)
  | _ => false
theorem Pc.tab {tb : Tb} {n f : Nat} {l : Memo} {xs : List D} {rv : RV} (hl : ∀ p ∈ l, Pc tb n p.1 p.2.1 p.2.2) (h : pmB tb l f xs rv = true) : Pc tb (n + 1) f xs rv := by
  obtain ⟨h1, h2⟩ := ba h
  refine Pc.memo hl h1 ?_
  cases e : run1 tb (Cw.memo l) f xs [] with
  | stuck => rw [e] at h2; cases h2
  | exc _ _ => rw [e] at h2; cases h2
  | ok r h' =>
    rw [e] at h2
    show unbox r h' = some rv
    cases u : unbox r h' with
    | none => simp only [u] at h2; cases h2
    | some r' => simp only [u] at h2; rw [rvB_eq h2]
end Cw
end

section
set_option Elab.async false
set_option linter.all false
set_option maxRecDepth 100000
set_option maxHeartbeats 400000
/-! Cw28: plain facts of the operators on ints and lists of ints. -/
namespace Cw
open PySem PySem.Spec PyProof.Rows L2
/-- all are ints -/
def allInt (xs : List D) : Prop := ∃ l : List Int, xs = l.map D.int
theorem ints_pure : ∀ l : List Int, D.pures (l.map D.int) = true
  | [] => rfl
  | i :: l => by show (true && D.pures (l.map D.int)) = true; rw [ints_pure l]; rfl
theorem ints_lay : ∀ l : List Int, PyData.canLayAll0 (D.ps (l.map D.int)) = true
  | [] => by simp only [List.map_nil, D.ps, PyData.canLayAll0]
  | i :: l => by
    have ih := ints_lay l
    simp only [List.map_cons, D.ps, D.p, PyData.canLayAll0, PyData.canLay0, ih, Bool.and_self]
theorem ints_depth : ∀ l : List Int, PyData.depthAll (D.ps (l.map D.int)) = 0
  | [] => by simp only [List.map_nil, D.ps, PyData.depthAll]
  | i :: l => by
    have ih := ints_depth l
    simp only [List.map_cons, D.ps, D.p, PyData.depthAll, PyData.depth, ih, Nat.max_self]
theorem ints_shaped (l : List Int) : SeqAt.shaped (.list (D.ps (l.map D.int))) = true := by
  unfold SeqAt.shaped
  simp only [PyData.canLay0, PyData.depth, ints_lay, ints_depth]; decide
theorem nil_shaped : SeqAt.shaped (.list []) = true := by decide
theorem eqv_nil (l : List Int) : PyData.eqv (.list (D.ps (l.map D.int))) (.list []) = l.isEmpty := by
  cases l with
  | nil => simp only [List.map_nil, D.ps, PyData.eqv, PyData.eqvAll, List.isEmpty]
  | cons i l => simp only [List.map_cons, D.ps, PyData.eqv, PyData.eqvAll, List.isEmpty]
theorem cmp_eq_nil {x : RV} {h : Hh} (l : List Int) (e : x.py h = some (.list (D.ps (l.map D.int)))) : cmpOp .eq x (.lst []) h = some l.isEmpty := by
  unfold cmpOp
  have e2 : (RV.lst []).py h = some (.list []) := rfl
  simp only [e, e2, ints_shaped, nil_shaped, eqv_nil, Bool.and_self, if_true]
theorem cmp_ne_nil {x : RV} {h : Hh} (l : List Int) (e : x.py h = some (.list (D.ps (l.map D.int)))) : cmpOp .ne x (.lst []) h = some (!l.isEmpty) := by
  unfold cmpOp
  have e2 : (RV.lst []).py h = some (.list []) := rfl
  simp only [e, e2, ints_shaped, nil_shaped, eqv_nil, Bool.and_self, if_true]
theorem py_ints (l : List Int) (h : Hh) : (RV.lst (l.map D.int)).py h = some (.list (D.ps (l.map D.int))) := if_pos (ints_pure l)
theorem rng_one {j : Int} (h1 : -1000 ≤ j) (h2 : j ≤ 16777216) : rngOp [.int j] = some ((List.range j.toNat).map fun (i : Nat) => D.int ((0 : Int) + i)) := by
  have hb : -(2 ^ 40 : Int) ≤ j ∧ j ≤ 16777216 := ⟨by omega, h2⟩
  unfold rngOp
  exact if_pos hb
theorem log2_le {i : Int} {k : Nat} (h : i.natAbs < 2 ^ k) (hk : 1 ≤ k) : i.natAbs.log2 < k := by
  by_cases h0 : i.natAbs = 0
  · rw [h0]; exact hk
  · exact (Nat.log2_lt h0).mpr h
theorem mul_ints {i j : Int} {h : Hh} (hi : i.natAbs < 4294967296) (hj : j.natAbs < 4294967296) : binOp .mul (.d (.int i)) (.d (.int j)) h = some (.d (.int (i * j))) := by
  have h1 := log2_le (k := 32) (by omega) (by decide) (i := i)
  have h2 := log2_le (k := 32) (by omega) (by decide) (i := j)
  have : i.natAbs.log2 + j.natAbs.log2 < 1000000 := by omega
  unfold binOp
  exact if_pos this
end Cw
end

section
set_option Elab.async false
set_option linter.all false
set_option maxRecDepth 100000
set_option maxHeartbeats 1000000
/-! Cw29: the evaluator by equations that simp can use, part by part; what is done next stands as a name. -/
namespace Cw
open PySem PySem.Spec PyProof.Rows L2

/-! ### what is done next, by names -/
def getV : Option (Option D) → Hh → R RV
  | some (some d), h => .ok (.d d) h
  | _, _ => .stuck
def tupK (ds : List D) (h : Hh) : R RV := .ok (.d (.tup ds)) h
def lstK (ds : List D) (h : Hh) : R RV := .ok (.lst ds) h
def dctK (ds : List D) (h : Hh) : R RV := match pairK ds with
  | some kvs => .ok (.dct (mergeD kvs)) h
  | none => .stuck
def lrgK (t : Bool) (ds : List D) (h : Hh) : R RV := R.ofO ((rngOp ds).map fun xs => if t then .d (.tup xs) else .lst xs) h
def binK (o : Bop) (x y : RV) (h : Hh) : R RV := R.ofO (binOp o x y h) h
def negK (x : RV) (h : Hh) : R RV := match x with
  | .d (.int i) => .ok (.d (.int (-i))) h
  | _ => .stuck
def ntK (x : RV) (h : Hh) : R RV := match x with
  | .d (.bl b) => .ok (.d (.bl (!b))) h
  | _ => .stuck
def cmpK (o : Cop) (x y : RV) (h : Hh) : R RV := R.ofO ((cmpOp o x y h).map fun b => .d (.bl b)) h
def okB (b : Bool) (h : Hh) : R RV := .ok (.d (.bl b)) h
def iteK (x : RV) (a b : Hh → R RV) (h : Hh) : R RV := match x with
  | .d (.bl true) => a h
  | .d (.bl false) => b h
  | _ => .stuck
def iteF (x : RV) (a b : Hh → RF) (h : Hh) : RF := match x with
  | .d (.bl true) => a h
  | .d (.bl false) => b h
  | _ => .stuck
def chnK (o : Option Bool) (a : Hh → R RV) (h : Hh) : R RV := match o with
  | some true => a h
  | some false => .ok (.d (.bl false)) h
  | none => .stuck
def ixK (x y : RV) (h : Hh) : R RV := match y with
  | .d y => R.ofO ((ixOp x y h).map .d) h
  | _ => .stuck
def bndK (o : Option (Option Int)) (f : Option Int → Hh → R RV) (h : Hh) : R RV := match o with
  | none => .stuck
  | some l => f l h
def slK (x : RV) (l r : Option Int) (h : Hh) : R RV := R.ofO (slOp x l r h) h
def revK (x : RV) (h : Hh) : R RV := R.ofO (revOp x h) h
def biK (b : Bi) (xs : List RV) (h : Hh) : R RV := R.ofO (biOp b xs h) h
def isK (ts : List Ty) (x : RV) (h : Hh) : R RV := R.ofO ((isOp ts x h).map fun b => .d (.bl b)) h
def mthK (m : Mt) (x : RV) (ds : List D) (h : Hh) : R RV := match mtOp m x ds h with
  | some (y, h) => .ok y h
  | none => .stuck
def mutK (x : RV) (h : Hh) : R RV := match x with
  | .lst xs => .ok (.d (.ref h.length)) (h ++ [.lst xs])
  | .dct kvs => .ok (.d (.ref h.length)) (h ++ [.dct kvs])
  | .d _ => .stuck
def toDK {α : Type} (x : RV) (f : D → Hh → R α) (h : Hh) : R α := match x.toD with
  | none => .stuck
  | some d => f d h
def toDF (x : RV) (f : D → Hh → RF) (h : Hh) : RF := match x.toD with
  | none => .stuck
  | some d => f d h
def consK (d : D) (ds : List D) (h : Hh) : R (List D) := .ok (d :: ds) h
def consR (d : RV) (ds : List RV) (h : Hh) : R (List RV) := .ok (d :: ds) h
def srcK (x : RV) (h : Hh) : R Src := R.ofO (srcOf x h) h
def rngK (ds : List D) (h : Hh) : R Src := R.ofO ((rngOp ds).map .vals) h
def enumK (x : RV) (h : Hh) : R Src := match x with
  | .d (.ref _) => .stuck
  | x => R.ofO ((x.lisc h).map fun xs => .vals (enumD xs)) h
def zipK (x y : RV) (h : Hh) : R Src := match x, y with
  | .d (.ref _), _ => .stuck
  | _, .d (.ref _) => .stuck
  | .d (.tup xs), .d (.tup ys) => .ok (.vals (zipD xs ys)) h
  | x, y => R.ofO ((x.lisc h).bind fun xs => (y.lisc h).map fun ys => .vals (zipD xs ys)) h
def nxK (σ : Sg) (h : Hh) : RF := .ok (.nx σ) h
def rtK (v : RV) (h : Hh) : RF := .ok (.rt v) h
def dropK (σ : Sg) (_ : RV) (h : Hh) : RF := .ok (.nx σ) h
def seqK (r : RF) (k : Sg → Hh → RF) : RF := match r with
  | .ok (.nx σ) h => k σ h
  | x => x
def runK (r : RF) : R RV := match r with
  | .ok (.rt v) h => .ok v h
  | .ok (.nx _) h => .ok (.d .non) h
  | .exc x _ h => .exc x h
  | _ => .stuck
def excK (k : Nat) (σ : Sg) (ds : List D) (h : Hh) : RF := .exc ⟨k, ds⟩ σ h
def fldK (o : Option D) (h : Hh) : R RV := match o with
  | some d => .ok (.d d) h
  | none => .stuck
/-- whether it is caught, whether it is known not to be -/
def catK (b n s : Bool) (r e : RF) : RF := match b with
  | true => (match s with
    | true => r
    | false => .stuck)
  | false => (match n with
    | true => e
    | false => .stuck)
def putK (n : Nat) (y d : D) (σ : Sg) (h : Hh) : R Sg := match putI n y d h with
  | some h => .ok σ h
  | none => .stuck
def tixK (d : D) (σ : Sg) (x y : RV) (h : Hh) : R Sg := match x, y with
  | .d (.ref n), .d y => putK n y d σ h
  | _, _ => .stuck
def augK (i : Nat) (o : Bop) (x : Int) (σ : Sg) (y : RV) (h : Hh) : RF := match y with
  | .d (.int y) => (match o with
    | .add => .ok (.nx (σ.set i (some (.int (x + y))))) h
    | .sub => .ok (.nx (σ.set i (some (.int (x - y))))) h
    | _ => .stuck)
  | _ => .stuck
def augA (v : Option (Option D)) (f : Int → Hh → RF) (h : Hh) : RF := match v with
  | some (some (.int x)) => f x h
  | _ => .stuck
def mthA (b : Bool) (e : Hh → R (List D)) (k : List D → Hh → R RV) (h : Hh) : R RV := if b = true then (e h).bind k else .stuck
section
variable (cf : CF)
def cBin (o : Bop) (b : I) (σ : Sg) (x : RV) (h : Hh) : R RV := (ev cf b σ h).bind (binK o x)
def cCmp (o : Cop) (b : I) (σ : Sg) (x : RV) (h : Hh) : R RV := (ev cf b σ h).bind (cmpK o x)
def cChn2 (p : Cop) (c : I) (σ : Sg) (y : RV) (h : Hh) : R RV := (ev cf c σ h).bind (cmpK p y)
def cChn1 (o p : Cop) (c : I) (σ : Sg) (x y : RV) (h : Hh) : R RV := chnK (cmpOp o x y h) (cChn2 cf p c σ y) h
def cChn (o p : Cop) (b c : I) (σ : Sg) (x : RV) (h : Hh) : R RV := (ev cf b σ h).bind (cChn1 cf o p c σ x)
def cDhn2 (p q : Cop) (c d : I) (σ : Sg) (y : RV) (h : Hh) : R RV := (ev cf c σ h).bind (cChn1 cf p q d σ y)
def cDhn1 (o p q : Cop) (c d : I) (σ : Sg) (x y : RV) (h : Hh) : R RV := chnK (cmpOp o x y h) (cDhn2 cf p q c d σ y) h
def cDhn (o p q : Cop) (b c d : I) (σ : Sg) (x : RV) (h : Hh) : R RV := (ev cf b σ h).bind (cDhn1 cf o p q c d σ x)
def cIfe (a b : I) (σ : Sg) (x : RV) (h : Hh) : R RV := iteK x (ev cf a σ) (ev cf b σ) h
def cIx (i : I) (σ : Sg) (x : RV) (h : Hh) : R RV := (ev cf i σ h).bind (ixK x)
def cSl3 (x : RV) (l r : Option Int) (h : Hh) : R RV := slK x l r h
def cSl2 (hi : I) (x : RV) (l : Option Int) (r : RV) (h : Hh) : R RV := bndK (bound hi.isNo r) (cSl3 x l) h
def cSl1 (hi : I) (σ : Sg) (x : RV) (l : Option Int) (h : Hh) : R RV := (ev cf hi σ h).bind (cSl2 hi x l)
def cSl0 (lo hi : I) (σ : Sg) (x : RV) (l : RV) (h : Hh) : R RV := bndK (bound lo.isNo l) (cSl1 cf hi σ x) h
def cSl (lo hi : I) (σ : Sg) (x : RV) (h : Hh) : R RV := (ev cf lo σ h).bind (cSl0 cf lo hi σ x)
def cCall2 (m : Bool) (f : Nat) (ds zs : List D) (h : Hh) : R RV := callOp cf m f (ds ++ zs) h
def cCall (m : Bool) (f : Nat) (es2 : List I) (σ : Sg) (ds : List D) (h : Hh) : R RV := (evs cf es2 σ h).bind (cCall2 cf m f ds)
def cMth (m : Mt) (es : List I) (σ : Sg) (x : RV) (h : Hh) : R RV := mthA (lstAt x h) (evs cf es σ) (mthK m x) h
def cLc (e t c : I) (w : List (Str × Nat)) (σ : Sg) (s : Src) (h : Hh) : R RV := (turns t (ev cf c) (ev cf e) s (wipeD σ w) (s.items h) 0 h).bind lstK
def cLc2 (e t t2 : I) (es2 : List I) (w w2 : List (Str × Nat)) (σ : Sg) (s : Src) (h : Hh) : R RV := fewR (s.items h).length ((outer t (fun σ h => (evs cf es2 σ h).bind fun ds h => inR t2 (ev cf e) (wipeD σ w2) ds h) s (wipeD σ w) (s.items h) 0 h).bind lstK)
def cCons2 (es : List I) (σ : Sg) (d : D) (h : Hh) : R (List D) := (evs cf es σ h).bind (consK d)
def cCons (es : List I) (σ : Sg) (x : RV) (h : Hh) : R (List D) := toDK x (cCons2 cf es σ) h
def cConsR (es : List I) (σ : Sg) (x : RV) (h : Hh) : R (List RV) := (evr cf es σ h).bind (consR x)
def cAnd (es : List I) (σ : Sg) (x : RV) (h : Hh) : R RV := iteK x (eva cf es σ) (okB false) h
def cOr (es : List I) (σ : Sg) (x : RV) (h : Hh) : R RV := iteK x (okB true) (evo cf es σ) h
def cZip (b : I) (σ : Sg) (x : RV) (h : Hh) : R Src := (ev cf b σ h).bind (zipK x)
def cTix (i : I) (d : D) (σ : Sg) (x : RV) (h : Hh) : R Sg := (ev cf i σ h).bind (tixK d σ x)
def cTgts (ts : List I) (ds : List D) (σ : Sg) (h : Hh) : R Sg := tgts cf ts ds σ h
def sSet2 (t : I) (σ : Sg) (d : D) (h : Hh) : RF := RF.of (asg cf t d σ h).noX σ nxK
def sSet (t : I) (σ : Sg) (x : RV) (h : Hh) : RF := toDF x (sSet2 cf t σ) h
def sIfs (a b : List S) (σ : Sg) (x : RV) (h : Hh) : RF := iteF x (exs cf a σ) (exs cf b σ) h
def sFr (t : I) (b : List S) (σ : Sg) (s : Src) (h : Hh) : RF := forL t (exs cf b) s (s.items h) 0 σ h
def sAug (i : Nat) (o : Bop) (e : I) (σ : Sg) (x : Int) (h : Hh) : RF := RF.of (ev cf e σ h) σ (augK i o x σ)
end
def hBin (y : Ex) (o : Bop) (b : HE) (σ : Sg) (x : RV) (h : Hh) : R RV := (hev y b σ h).bind (binK o x)
def hCmp (y : Ex) (o : Cop) (b : HE) (σ : Sg) (x : RV) (h : Hh) : R RV := (hev y b σ h).bind (cmpK o x)
def hAnd (y : Ex) (b : HE) (σ : Sg) (x : RV) (h : Hh) : R RV := iteK x (hev y b σ) (okB false) h
def hCons2 (y : Ex) (es : List HE) (σ : Sg) (d : D) (h : Hh) : R (List D) := (hevs y es σ h).bind (consK d)
def hCons (y : Ex) (es : List HE) (σ : Sg) (x : RV) (h : Hh) : R (List D) := toDK x (hCons2 y es σ) h
def hSet (j : Nat) (σ : Sg) (x : RV) (h : Hh) : RF := toDF x (fun d h => .ok (.nx (σ.set j (some d))) h) h
/-! ### by equations -/
section
variable {α β : Type}
theorem R.bind_ok (a : α) (h : Hh) (f : α → Hh → R β) : (R.ok a h).bind f = f a h := rfl
theorem R.bind_stuck (f : α → Hh → R β) : (R.stuck : R α).bind f = .stuck := rfl
theorem R.bind_exc (x : Ex) (h : Hh) (f : α → Hh → R β) : (R.exc x h : R α).bind f = .exc x h := rfl
theorem R.bind_ite {p : Prop} [Decidable p] (a b : R α) (f : α → Hh → R β) : (if p then a else b).bind f = if p then a.bind f else b.bind f := by split <;> rfl
theorem RF.of_ok (a : α) (h : Hh) (σ : Sg) (k : α → Hh → RF) : RF.of (R.ok a h) σ k = k a h := rfl
theorem RF.of_stuck (σ : Sg) (k : α → Hh → RF) : RF.of (R.stuck : R α) σ k = .stuck := rfl
theorem RF.of_exc (x : Ex) (h : Hh) (σ : Sg) (k : α → Hh → RF) : RF.of (R.exc x h : R α) σ k = .exc x σ h := rfl
theorem RF.of_ite {p : Prop} [Decidable p] (a b : R α) (σ : Sg) (k : α → Hh → RF) : RF.of (if p then a else b) σ k = if p then RF.of a σ k else RF.of b σ k := by split <;> rfl
theorem R.noX_ok (a : α) (h : Hh) : (R.ok a h).noX = .ok a h := rfl
theorem R.ofO_some (a : α) (h : Hh) : R.ofO (some a) h = .ok a h := rfl
theorem R.ofO_map {γ : Type} (a : γ) (f : γ → α) (h : Hh) : R.ofO ((some a).map f) h = .ok (f a) h := rfl
theorem R.ite_ok {p : Prop} [Decidable p] (a b : α) (h : Hh) : (if p then R.ok a h else R.ok b h) = R.ok (if p then a else b) h := by split <;> rfl
theorem R.ite_d {p : Prop} [Decidable p] (a b : D) : (if p then RV.d a else RV.d b) = RV.d (if p then a else b) := by split <;> rfl
theorem R.ite_bl {p : Prop} [Decidable p] (a b : Bool) : (if p then D.bl a else D.bl b) = D.bl (if p then a else b) := by split <;> rfl
theorem R.ite_int {p : Prop} [Decidable p] (a b : Int) : (if p then D.int a else D.int b) = D.int (if p then a else b) := by split <;> rfl
end
theorem seqK_nx (σ : Sg) (h : Hh) (k : Sg → Hh → RF) : seqK (.ok (.nx σ) h) k = k σ h := rfl
theorem seqK_rt (v : RV) (h : Hh) (k : Sg → Hh → RF) : seqK (.ok (.rt v) h) k = .ok (.rt v) h := rfl
theorem seqK_bk (σ : Sg) (h : Hh) (k : Sg → Hh → RF) : seqK (.ok (.bk σ) h) k = .ok (.bk σ) h := rfl
theorem seqK_ct (σ : Sg) (h : Hh) (k : Sg → Hh → RF) : seqK (.ok (.ct σ) h) k = .ok (.ct σ) h := rfl
theorem seqK_exc (x : Ex) (σ : Sg) (h : Hh) (k : Sg → Hh → RF) : seqK (.exc x σ h) k = .exc x σ h := rfl
theorem seqK_ite {p : Prop} [Decidable p] (a b : RF) (k : Sg → Hh → RF) : seqK (if p then a else b) k = if p then seqK a k else seqK b k := by split <;> rfl
theorem runK_rt (v : RV) (h : Hh) : runK (.ok (.rt v) h) = .ok v h := rfl
theorem runK_nx (σ : Sg) (h : Hh) : runK (.ok (.nx σ) h) = .ok (.d .non) h := rfl
theorem runK_exc (x : Ex) (σ : Sg) (h : Hh) : runK (.exc x σ h) = .exc x h := rfl
theorem runK_ite {p : Prop} [Decidable p] (a b : RF) : runK (if p then a else b) = if p then runK a else runK b := by split <;> rfl
theorem iteK_t (a b : Hh → R RV) (h : Hh) : iteK (.d (.bl true)) a b h = a h := rfl
theorem iteK_f (a b : Hh → R RV) (h : Hh) : iteK (.d (.bl false)) a b h = b h := rfl
theorem iteK_dec (p : Prop) [Decidable p] (a b : Hh → R RV) (h : Hh) : iteK (.d (.bl (decide p))) a b h = if p then a h else b h := by
  by_cases q : p
  · rw [if_pos q, decide_eq_true q]; rfl
  · rw [if_neg q, decide_eq_false q]; rfl
theorem iteK_nt (x : Bool) (a b : Hh → R RV) (h : Hh) : iteK (.d (.bl (!x))) a b h = iteK (.d (.bl x)) b a h := by cases x <;> rfl
theorem iteK_bl (x : Bool) (a b : Hh → R RV) (h : Hh) : iteK (.d (.bl x)) a b h = if x = true then a h else b h := by cases x <;> rfl
theorem iteK_ite (p : Prop) [Decidable p] (x y : RV) (a b : Hh → R RV) (h : Hh) : iteK (if p then x else y) a b h = if p then iteK x a b h else iteK y a b h := by split <;> rfl
theorem iteF_t (a b : Hh → RF) (h : Hh) : iteF (.d (.bl true)) a b h = a h := rfl
theorem iteF_f (a b : Hh → RF) (h : Hh) : iteF (.d (.bl false)) a b h = b h := rfl
theorem iteF_dec (p : Prop) [Decidable p] (a b : Hh → RF) (h : Hh) : iteF (.d (.bl (decide p))) a b h = if p then a h else b h := by
  by_cases q : p
  · rw [if_pos q, decide_eq_true q]; rfl
  · rw [if_neg q, decide_eq_false q]; rfl
theorem iteF_nt (x : Bool) (a b : Hh → RF) (h : Hh) : iteF (.d (.bl (!x))) a b h = iteF (.d (.bl x)) b a h := by cases x <;> rfl
theorem iteF_bl (x : Bool) (a b : Hh → RF) (h : Hh) : iteF (.d (.bl x)) a b h = if x = true then a h else b h := by cases x <;> rfl
theorem iteF_ite (p : Prop) [Decidable p] (x y : RV) (a b : Hh → RF) (h : Hh) : iteF (if p then x else y) a b h = if p then iteF x a b h else iteF y a b h := by split <;> rfl
theorem chnK_t (a : Hh → R RV) (h : Hh) : chnK (some true) a h = a h := rfl
theorem chnK_f (a : Hh → R RV) (h : Hh) : chnK (some false) a h = .ok (.d (.bl false)) h := rfl
theorem chnK_dec (p : Prop) [Decidable p] (a : Hh → R RV) (h : Hh) : chnK (some (decide p)) a h = if p then a h else .ok (.d (.bl false)) h := by
  by_cases q : p
  · rw [if_pos q, decide_eq_true q]; rfl
  · rw [if_neg q, decide_eq_false q]; rfl
theorem bndK_some (l : Option Int) (f : Option Int → Hh → R RV) (h : Hh) : bndK (some l) f h = f l h := rfl
theorem bound_t (x : RV) : bound true x = some none := rfl
theorem bound_f (i : Int) : bound false (.d (.int i)) = some (some i) := rfl
theorem toDK_d {α : Type} (d : D) (f : D → Hh → R α) (h : Hh) : toDK (.d d) f h = f d h := rfl
theorem toDK_lst {α : Type} (xs : List D) (f : D → Hh → R α) (h : Hh) : toDK (.lst xs) f h = f (.fl xs) h := rfl
theorem toDF_d (d : D) (f : D → Hh → RF) (h : Hh) : toDF (.d d) f h = f d h := rfl
theorem toDF_lst (xs : List D) (f : D → Hh → RF) (h : Hh) : toDF (.lst xs) f h = f (.fl xs) h := rfl
theorem getV_some (d : D) (h : Hh) : getV (some (some d)) h = .ok (.d d) h := rfl
theorem negK_int (i : Int) (h : Hh) : negK (.d (.int i)) h = .ok (.d (.int (-i))) h := rfl
theorem ntK_bl (b : Bool) (h : Hh) : ntK (.d (.bl b)) h = .ok (.d (.bl (!b))) h := rfl
theorem mutK_lst (xs : List D) (h : Hh) : mutK (.lst xs) h = .ok (.d (.ref h.length)) (h ++ [.lst xs]) := rfl
theorem mutK_dct (xs : List (Key × D)) (h : Hh) : mutK (.dct xs) h = .ok (.d (.ref h.length)) (h ++ [.dct xs]) := rfl
theorem mthA_t (e : Hh → R (List D)) (k : List D → Hh → R RV) (h : Hh) : mthA true e k h = (e h).bind k := rfl
theorem augA_int (x : Int) (f : Int → Hh → RF) (h : Hh) : augA (some (some (.int x))) f h = f x h := rfl
theorem augK_add (i : Nat) (x y : Int) (σ : Sg) (h : Hh) : augK i .add x σ (.d (.int y)) h = .ok (.nx (σ.set i (some (.int (x + y))))) h := rfl
theorem augK_sub (i : Nat) (x y : Int) (σ : Sg) (h : Hh) : augK i .sub x σ (.d (.int y)) h = .ok (.nx (σ.set i (some (.int (x - y))))) h := rfl
theorem tixK_ref (n : Nat) (y d : D) (σ : Sg) (h : Hh) : tixK d σ (.d (.ref n)) (.d y) h = putK n y d σ h := rfl
/-! ### expressions -/
section
variable {cf : CF} {σ : Sg} {h : Hh}
theorem ev_v (i : Nat) : ev cf (.v i) σ h = getV σ[i]? h := by
  conv => lhs; unfold ev
  cases σ[i]? with
  | none => rfl
  | some v => cases v <;> rfl
theorem ev_c (d : D) : ev cf (.c d) σ h = .ok (.d d) h := by unfold ev; rfl
theorem ev_g (x : Str) (d : D) : ev cf (.g x d) σ h = .ok (.d d) h := by unfold ev; rfl
theorem ev_no : ev cf .no σ h = .ok (.d .non) h := by unfold ev; rfl
theorem ev_tup (es : List I) : ev cf (.tup es) σ h = (evs cf es σ h).bind tupK := by unfold ev; rfl
theorem ev_lst (es : List I) : ev cf (.lst es) σ h = (evs cf es σ h).bind lstK := by unfold ev; rfl
theorem ev_dct (es : List I) : ev cf (.dct es) σ h = (evs cf es σ h).bind dctK := by unfold ev; rfl
theorem ev_lrg (t : Bool) (es : List I) : ev cf (.lrg t es) σ h = (evs cf es σ h).bind (lrgK t) := by unfold ev; rfl
theorem ev_bin (o : Bop) (a b : I) : ev cf (.bin o a b) σ h = (ev cf a σ h).bind (cBin cf o b σ) := by
  conv => lhs; unfold ev
  rfl
theorem ev_neg (a : I) : ev cf (.neg a) σ h = (ev cf a σ h).bind negK := by
  conv => lhs; unfold ev
  rfl
theorem ev_nt (a : I) : ev cf (.nt a) σ h = (ev cf a σ h).bind ntK := by
  conv => lhs; unfold ev
  rfl
theorem ev_and (es : List I) : ev cf (.and es) σ h = eva cf es σ h := by conv => lhs; unfold ev
theorem ev_or (es : List I) : ev cf (.or es) σ h = evo cf es σ h := by conv => lhs; unfold ev
theorem ev_cmp (o : Cop) (a b : I) : ev cf (.cmp o a b) σ h = (ev cf a σ h).bind (cCmp cf o b σ) := by
  conv => lhs; unfold ev
  rfl
theorem ev_chn (o p : Cop) (a b c : I) : ev cf (.chn o p a b c) σ h = (ev cf a σ h).bind (cChn cf o p b c σ) := by
  conv => lhs; unfold ev
  rfl
theorem ev_chn3 (o p q : Cop) (a b c d : I) : ev cf (.chn3 o p q a b c d) σ h = (ev cf a σ h).bind (cDhn cf o p q b c d σ) := by
  conv => lhs; unfold ev
  rfl
theorem ev_ife (c a b : I) : ev cf (.ife c a b) σ h = (ev cf c σ h).bind (cIfe cf a b σ) := by
  conv => lhs; unfold ev
  rfl
theorem ev_ix (a i : I) : ev cf (.ix a i) σ h = (ev cf a σ h).bind (cIx cf i σ) := by
  conv => lhs; unfold ev
  rfl
theorem ev_sl (a lo hi : I) : ev cf (.sl a lo hi) σ h = (ev cf a σ h).bind (cSl cf lo hi σ) := by
  conv => lhs; unfold ev
  rfl
theorem ev_rev (a : I) : ev cf (.rev a) σ h = (ev cf a σ h).bind revK := by
  conv => lhs; unfold ev
  rfl
theorem ev_call (m : Bool) (f : Nat) (x : Str) (es : List I) (ks : List Str) (es2 : List I) : ev cf (.call m f x es ks es2) σ h = (evs cf es σ h).bind (cCall cf m f es2 σ) := by
  conv => lhs; unfold ev
  rfl
theorem ev_bi (b : Bi) (es : List I) : ev cf (.bi b es) σ h = (evr cf es σ h).bind (biK b) := by
  conv => lhs; unfold ev
  rfl
theorem ev_isi (a : I) (ts : List Ty) : ev cf (.isi a ts) σ h = (ev cf a σ h).bind (isK ts) := by
  conv => lhs; unfold ev
  rfl
theorem ev_mth (m : Mt) (o : I) (es : List I) : ev cf (.mth m o es) σ h = (ev cf o σ h).bind (cMth cf m es σ) := by
  conv => lhs; unfold ev
  rfl
theorem ev_mut (e : I) : ev cf (.mut e) σ h = (ev cf e σ h).bind mutK := by
  conv => lhs; unfold ev
  rfl
theorem ev_lc (e t i c : I) (w : List (Str × Nat)) : ev cf (.lc e t i c w) σ h = (evi cf i σ h).bind (cLc cf e t c w σ) := by
  conv => lhs; unfold ev
  rfl
theorem ev_lc2 (e t i t2 : I) (es2 : List I) (w w2 : List (Str × Nat)) : ev cf (.lc2 e t i t2 es2 w w2) σ h = (evi cf i σ h).bind (cLc2 cf e t t2 es2 w w2 σ) := by
  conv => lhs; unfold ev
  rfl
theorem evs_nil : evs cf [] σ h = .ok [] h := by unfold evs; rfl
theorem evs_cons (e : I) (es : List I) : evs cf (e :: es) σ h = (ev cf e σ h).bind (cCons cf es σ) := by
  conv => lhs; unfold evs
  rfl
theorem evr_nil : evr cf [] σ h = .ok [] h := by unfold evr; rfl
theorem evr_cons (e : I) (es : List I) : evr cf (e :: es) σ h = (ev cf e σ h).bind (cConsR cf es σ) := by
  conv => lhs; unfold evr
  rfl
theorem eva_one (e : I) : eva cf [e] σ h = ev cf e σ h := by
  conv => lhs; unfold eva
theorem eva_cons (e e2 : I) (r : List I) : eva cf (e :: e2 :: r) σ h = (ev cf e σ h).bind (cAnd cf (e2 :: r) σ) := by
  conv => lhs; unfold eva
  rfl
theorem evo_one (e : I) : evo cf [e] σ h = ev cf e σ h := by
  conv => lhs; unfold evo
theorem evo_cons (e e2 : I) (r : List I) : evo cf (e :: e2 :: r) σ h = (ev cf e σ h).bind (cOr cf (e2 :: r) σ) := by
  conv => lhs; unfold evo
  congr 1; funext x h; cases x with
    | d d => cases d with
      | bl b => cases b <;> rfl
      | _ => rfl
    | _ => rfl
theorem evi_it (e : I) : evi cf (.it e) σ h = (ev cf e σ h).bind srcK := by
  conv => lhs; unfold evi
  rfl
theorem evi_rng (es : List I) : evi cf (.rng es) σ h = (evs cf es σ h).bind rngK := by
  conv => lhs; unfold evi
  rfl
theorem evi_enum (e : I) : evi cf (.enum e) σ h = (ev cf e σ h).bind enumK := by
  conv => lhs; unfold evi
  rfl
theorem evi_zip (a b : I) : evi cf (.zip a b) σ h = (ev cf a σ h).bind (cZip cf b σ) := by
  conv => lhs; unfold evi
  rfl
/-! ### statements -/
theorem asg_v (i : Nat) (d : D) : asg cf (.v i) d σ h = .ok (σ.set i (some d)) h := by cases d <;> rfl
theorem asg_tup (ts : List I) (ds : List D) : asg cf (.tup ts) (.tup ds) σ h = tgts cf ts ds σ h := by unfold asg; rfl
theorem asg_ix (o i : I) (d : D) : asg cf (.ix o i) d σ h = (ev cf o σ h).bind (cTix cf i d σ) := by cases d <;> rfl
theorem tgts_nil : tgts cf [] [] σ h = .ok σ h := by unfold tgts; rfl
theorem tgts_cons (t : I) (ts : List I) (d : D) (ds : List D) : tgts cf (t :: ts) (d :: ds) σ h = (tgt cf t d σ h).bind (tgts cf ts ds) := by
  conv => lhs; unfold tgts
theorem tgt_v (i : Nat) (d : D) : tgt cf (.v i) d σ h = .ok (σ.set i (some d)) h := by unfold tgt; rfl
theorem tgt_ix (o i : I) (d : D) : tgt cf (.ix o i) d σ h = (ev cf o σ h).bind (cTix cf i d σ) := by
  rw [← asg_ix]; cases d <;> rfl
theorem ex_set (t e : I) : ex cf (.set t e) σ h = RF.of (ev cf e σ h) σ (sSet cf t σ) := by
  conv => lhs; unfold ex
  rfl
theorem ex_exp (e : I) : ex cf (.exp e) σ h = RF.of (ev cf e σ h) σ (dropK σ) := by
  conv => lhs; unfold ex
  rfl
theorem ex_ret (e : I) : ex cf (.ret e) σ h = RF.of (ev cf e σ h) σ rtK := by
  conv => lhs; unfold ex
  rfl
theorem ex_ret0 : ex cf .ret0 σ h = .ok (.rt (.d .non)) h := by unfold ex; rfl
theorem ex_pass : ex cf .pass σ h = .ok (.nx σ) h := by unfold ex; rfl
theorem ex_brk : ex cf .brk σ h = .ok (.bk σ) h := by unfold ex; rfl
theorem ex_cnt : ex cf .cnt σ h = .ok (.ct σ) h := by unfold ex; rfl
theorem ex_aug (i : Nat) (o : Bop) (e : I) : ex cf (.aug i o e) σ h = augA σ[i]? (sAug cf i o e σ) h := by
  conv => lhs; unfold ex
  rfl
theorem ex_ifs (c : I) (a b : List S) : ex cf (.ifs c a b) σ h = RF.of (ev cf c σ h) σ (sIfs cf a b σ) := by
  conv => lhs; unfold ex
  rfl
theorem ex_fr (t i : I) (b : List S) : ex cf (.fr t i b) σ h = RF.of (evi cf i σ h) σ (sFr cf t b σ) := by
  conv => lhs; unfold ex
  rfl
theorem ex_wh (k : Nat) (c : I) (b : List S) : ex cf (.wh k c b) σ h = whL (ev cf c) (exs cf b) k σ h := by conv => lhs; unfold ex
theorem ex_rs (k : Nat) (x : Str) (es : List I) : ex cf (.rs k x es) σ h = RF.of (evs cf es σ h) σ (excK k σ) := by
  conv => lhs; unfold ex
  rfl
theorem ex_tr (b : List S) (ks no : List Nat) (x : Str) (i : Option Nat) (hd : Hd) : ex cf (.tr b ks no x i hd) σ h = catchF ks no i hd (exs cf b σ h) := by
  conv => lhs; unfold ex
theorem cat_ok (ks no : List Nat) (i : Option Nat) (hd : Hd) (f : F) : catchF ks no i hd (.ok f h) = .ok f h := rfl
theorem cat_stuck (ks no : List Nat) (i : Option Nat) (hd : Hd) : catchF ks no i hd .stuck = .stuck := rfl
theorem cat_exc (ks no : List Nat) (i : Option Nat) (hd : Hd) (k : Nat) (as : List D) : catchF ks no i hd (.exc ⟨k, as⟩ σ h) = catK (ks.contains k) (no.contains k) (inI i σ) (offF i (hdl ⟨k, as⟩ hd (off i σ) h)) (.exc ⟨k, as⟩ σ h) := by
  show (if ks.contains k = true then (if inI i σ = true then offF i (hdl ⟨k, as⟩ hd (off i σ) h) else RF.stuck) else if no.contains k = true then RF.exc ⟨k, as⟩ σ h else .stuck) = _
  unfold catK
  cases ks.contains k <;> cases no.contains k <;> cases inI i σ <;> rfl
theorem cat_ite (ks no : List Nat) (i : Option Nat) (hd : Hd) {p : Prop} [Decidable p] (a b : RF) : catchF ks no i hd (if p then a else b) = if p then catchF ks no i hd a else catchF ks no i hd b := by split <;> rfl
theorem catK_t (n : Bool) (r e : RF) : catK true n true r e = r := rfl
theorem catK_f (s : Bool) (r e : RF) : catK false true s r e = e := rfl
theorem inI_n : inI none σ = true := rfl
theorem inI_s (i : Nat) : inI (some i) σ = decide (i < σ.length) := rfl
theorem off_n : off none σ = σ := rfl
theorem off_s (i : Nat) : off (some i) σ = σ.set i none := rfl
theorem offF_nx (i : Nat) : offF (some i) (.ok (.nx σ) h) = .ok (.nx (σ.set i none)) h := rfl
theorem offF_rt (i : Nat) (v : RV) : offF (some i) (.ok (.rt v) h) = .ok (.rt v) h := rfl
theorem offF_n (r : RF) : offF none r = r := by
  cases r with
  | ok f h => cases f <;> rfl
  | _ => rfl
theorem hdl_ret (y : Ex) (e : HE) : hdl y (.ret e) σ h = RF.of (hev y e σ h).noX σ rtK := by unfold hdl; rfl
theorem hdl_set (y : Ex) (j : Nat) (e : HE) : hdl y (.set j e) σ h = RF.of (hev y e σ h).noX σ (hSet j σ) := by unfold hdl; rfl
theorem hdl_pass (y : Ex) : hdl y .pass σ h = .ok (.nx σ) h := by unfold hdl; rfl
theorem hev_v (y : Ex) (i : Nat) : hev y (.v i) σ h = getV σ[i]? h := by
  conv => lhs; unfold hev
  cases σ[i]? with
  | none => rfl
  | some v => cases v <;> rfl
theorem hev_c (y : Ex) (d : D) : hev y (.c d) σ h = .ok (.d d) h := by unfold hev; rfl
theorem hev_fld (k : Nat) (as : List D) (j : Nat) (f : Str) : hev ⟨k, as⟩ (.fld j f) σ h = fldK as[j]? h := by unfold hev; rfl
theorem hev_isx (k : Nat) (as : List D) (ks : List Nat) (x : Str) : hev ⟨k, as⟩ (.isx ks x) σ h = .ok (.d (.bl (ks.contains k))) h := by unfold hev; rfl
theorem hev_tup (y : Ex) (es : List HE) : hev y (.tup es) σ h = (hevs y es σ h).bind tupK := by unfold hev; rfl
theorem hev_bin (y : Ex) (o : Bop) (a b : HE) : hev y (.bin o a b) σ h = (hev y a σ h).bind (hBin y o b σ) := by
  conv => lhs; unfold hev
  rfl
theorem hev_cmp (y : Ex) (o : Cop) (a b : HE) : hev y (.cmp o a b) σ h = (hev y a σ h).bind (hCmp y o b σ) := by
  conv => lhs; unfold hev
  rfl
theorem hev_and (y : Ex) (a b : HE) : hev y (.and a b) σ h = (hev y a σ h).bind (hAnd y b σ) := by
  conv => lhs; unfold hev
  rfl
theorem hevs_nil (y : Ex) : hevs y [] σ h = .ok [] h := by unfold hevs; rfl
theorem hevs_cons (y : Ex) (e : HE) (es : List HE) : hevs y (e :: es) σ h = (hev y e σ h).bind (hCons y es σ) := by
  conv => lhs; unfold hevs
  rfl
theorem fldK_some (d : D) : fldK (some d) h = .ok (.d d) h := rfl
theorem exs_nil : exs cf [] σ h = .ok (.nx σ) h := by unfold exs; rfl
theorem exs_cons (s : S) (r : List S) : exs cf (s :: r) σ h = seqK (ex cf s σ h) (exs cf r) := by
  conv => lhs; unfold exs
  rfl
end
theorem run_def {tb : Tb} {n f : Nat} {fn : Fn} {xs : List D} {h : Hh} (e : tb f = some fn) (l : xs.length = fn.ps.length) : run tb (n + 1) f xs h = runK (exs (runB tb n) fn.body (xs.map some ++ List.replicate (fn.ns.length - xs.length) none) h) := by
  rw [run_succ]; unfold run1; rw [e]; simp only [l, if_true]
  cases exs (runB tb n) fn.body (xs.map some ++ List.replicate (fn.ns.length - fn.ps.length) none) h with
  | ok f h => cases f <;> rfl
  | _ => rfl
end Cw
end

section
set_option Elab.async false
set_option linter.all false
set_option maxRecDepth 100000
set_option maxHeartbeats 1000000
/-! Cw30: the operators by equations for simp. -/
namespace Cw
open PySem PySem.Spec PyProof.Rows L2

/-! ### ints -/
section
variable {h : Hh}
theorem bin_add (i j : Int) (h : Hh) : binK .add (.d (.int i)) (.d (.int j)) h = .ok (.d (.int (i + j))) h := rfl
theorem bin_sub (i j : Int) (h : Hh) : binK .sub (.d (.int i)) (.d (.int j)) h = .ok (.d (.int (i - j))) h := rfl
theorem bin_mul (i j : Int) (h : Hh) (h1 : -9223372036854775808 ≤ i) (h2 : i ≤ 9223372036854775807) (h3 : -9223372036854775808 ≤ j) (h4 : j ≤ 9223372036854775807) : binK .mul (.d (.int i)) (.d (.int j)) h = .ok (.d (.int (i * j))) h := by
  have e1 := log2_le (k := 64) (by omega) (by decide) (i := i)
  have e2 := log2_le (k := 64) (by omega) (by decide) (i := j)
  have : i.natAbs.log2 + j.natAbs.log2 < 1000000 := by omega
  unfold binK binOp
  show R.ofO (if _ then _ else _) h = _
  rw [if_pos this]; rfl
theorem bin_mod (i j : Int) (h : Hh) (h1 : 0 < j) : binK .mod (.d (.int i)) (.d (.int j)) h = .ok (.d (.int (i % j))) h := by
  unfold binK binOp
  show R.ofO (if _ then _ else _) h = _
  rw [if_pos h1]; rfl
theorem bin_fdiv (i j : Int) (h : Hh) (h1 : 0 < j) (h2 : j ≤ 9223372036854775807) : binK .fdiv (.d (.int i)) (.d (.int j)) h = .ok (.d (.int (i / j))) h := by
  have e := log2_le (k := 64) (by omega) (by decide) (i := j)
  have : 0 < j ∧ j.natAbs.log2 < 9000 := ⟨h1, by omega⟩
  unfold binK binOp
  show R.ofO (if _ then _ else _) h = _
  rw [if_pos this]; rfl
theorem cmp_lt (i j : Int) (h : Hh) : cmpK .lt (.d (.int i)) (.d (.int j)) h = .ok (.d (.bl (decide (i < j)))) h := rfl
theorem cmp_le (i j : Int) (h : Hh) : cmpK .le (.d (.int i)) (.d (.int j)) h = .ok (.d (.bl (decide (i ≤ j)))) h := rfl
theorem cmp_gt (i j : Int) (h : Hh) : cmpK .gt (.d (.int i)) (.d (.int j)) h = .ok (.d (.bl (decide (j < i)))) h := rfl
theorem cmp_ge (i j : Int) (h : Hh) : cmpK .ge (.d (.int i)) (.d (.int j)) h = .ok (.d (.bl (decide (j ≤ i)))) h := rfl
theorem cmo_lt (i j : Int) (h : Hh) : cmpOp .lt (.d (.int i)) (.d (.int j)) h = some (decide (i < j)) := rfl
theorem cmo_le (i j : Int) (h : Hh) : cmpOp .le (.d (.int i)) (.d (.int j)) h = some (decide (i ≤ j)) := rfl
theorem cmo_gt (i j : Int) (h : Hh) : cmpOp .gt (.d (.int i)) (.d (.int j)) h = some (decide (j < i)) := rfl
theorem cmo_ge (i j : Int) (h : Hh) : cmpOp .ge (.d (.int i)) (.d (.int j)) h = some (decide (j ≤ i)) := rfl
theorem cmp_is_none (d : D) (h : Hh) : cmpK .is (.d d) (.d .non) h = .ok (.d (.bl (match d with | .non => true | _ => false))) h := by cases d <;> rfl
theorem cmp_isnot_none (d : D) (h : Hh) : cmpK .isnot (.d d) (.d .non) h = .ok (.d (.bl (match d with | .non => false | _ => true))) h := by cases d <;> rfl
theorem cmp_is_bl (a b : Bool) (h : Hh) : cmpK .is (.d (.bl a)) (.d (.bl b)) h = .ok (.d (.bl (decide (a = b)))) h := rfl
theorem cmp_isnot_bl (a b : Bool) (h : Hh) : cmpK .isnot (.d (.bl a)) (.d (.bl b)) h = .ok (.d (.bl (!decide (a = b)))) h := rfl

/-! ### equality of data without bools, lists inside -/
mutual
/-- None, ints, texts, tuples of such -/
def D.kk : D → Bool
  | .non => true
  | .int _ => true
  | .str x => PyData.strOk x
  | .tup xs => D.kks xs
  | _ => false
def D.kks : List D → Bool
  | [] => true
  | x :: xs => D.kk x && D.kks xs
end
mutual
def D.dep : D → Nat
  | .tup xs => D.deps xs + 1
  | .fl xs => D.deps xs + 1
  | .sc xs => D.deps xs + 1
  | _ => 0
def D.deps : List D → Nat
  | [] => 0
  | x :: xs => max (D.dep x) (D.deps xs)
end
mutual
theorem D.dep_p : ∀ d : D, d.p.depth = d.dep
  | .non => rfl
  | .bl _ => rfl
  | .int _ => rfl
  | .str _ => rfl
  | .ref _ => rfl
  | .tup xs => by simp only [D.p, D.dep, PyData.depth, D.deps_p xs]
  | .fl xs => by simp only [D.p, D.dep, PyData.depth, D.deps_p xs]
  | .sc xs => by simp only [D.p, D.dep, PyData.depth, D.deps_p xs]
theorem D.deps_p : ∀ d : List D, PyData.depthAll (D.ps d) = D.deps d
  | [] => rfl
  | x :: xs => by simp only [D.ps, D.deps, PyData.depthAll, D.dep_p x, D.deps_p xs]
end
mutual
theorem kk_pure : ∀ {d : D}, d.kk = true → d.pure = true
  | .non, _ => rfl
  | .bl _, h => by simp only [D.kk] at h; cases h
  | .int _, _ => rfl
  | .str _, _ => rfl
  | .tup xs, h => by simp only [D.kk] at h; simp only [D.pure]; exact kks_pure h
  | .fl _, h => by simp only [D.kk] at h; cases h
  | .sc _, h => by simp only [D.kk] at h; cases h
  | .ref _, h => by simp only [D.kk] at h; cases h
theorem kks_pure : ∀ {d : List D}, D.kks d = true → D.pures d = true
  | [], _ => rfl
  | x :: xs, h => by
    simp only [D.kks] at h
    obtain ⟨h1, h2⟩ := ba h
    simp only [D.pures, kk_pure h1, kks_pure h2, Bool.and_self]
end
mutual
theorem kk_lay : ∀ {d : D}, d.kk = true → d.p.canLay0 = true
  | .non, _ => by simp only [D.p, PyData.canLay0]
  | .bl _, h => by simp only [D.kk] at h; cases h
  | .int _, _ => by simp only [D.p, PyData.canLay0]
  | .str _, h => by simp only [D.kk] at h; simp only [D.p, PyData.canLay0]; exact h
  | .tup xs, h => by simp only [D.kk] at h; simp only [D.p, PyData.canLay0]; exact kks_lay h
  | .fl _, h => by simp only [D.kk] at h; cases h
  | .sc _, h => by simp only [D.kk] at h; cases h
  | .ref _, h => by simp only [D.kk] at h; cases h
theorem kks_lay : ∀ {d : List D}, D.kks d = true → PyData.canLayAll0 (D.ps d) = true
  | [], _ => by simp only [D.ps, PyData.canLayAll0]
  | x :: xs, h => by
    simp only [D.kks] at h
    obtain ⟨h1, h2⟩ := ba h
    simp only [D.ps, PyData.canLayAll0, kk_lay h1, kks_lay h2, Bool.and_self]
end
mutual
theorem kk_eqv : ∀ {a b : D}, a.kk = true → b.kk = true → PyData.eqv a.p b.p = D.beqA a b
  | .non, .non, _, _ => by simp only [D.p, PyData.eqv, D.beqA]
  | .non, .int _, _, _ => by simp only [D.p, PyData.eqv, D.beqA]
  | .non, .str _, _, _ => by simp only [D.p, PyData.eqv, D.beqA]
  | .non, .tup _, _, _ => by simp only [D.p, PyData.eqv, D.beqA]
  | .int _, .non, _, _ => by simp only [D.p, PyData.eqv, D.beqA]
  | .int i, .int j, _, _ => by simp only [D.p, PyData.eqv, D.beqA]; rw [Bool.eq_iff_iff, beq_iff_eq, decide_eq_true_eq]
  | .int _, .str _, _, _ => by simp only [D.p, PyData.eqv, D.beqA]
  | .int _, .tup _, _, _ => by simp only [D.p, PyData.eqv, D.beqA]
  | .str _, .non, _, _ => by simp only [D.p, PyData.eqv, D.beqA]
  | .str _, .int _, _, _ => by simp only [D.p, PyData.eqv, D.beqA]
  | .str x, .str y, _, _ => by simp only [D.p, PyData.eqv, D.beqA]; rw [Bool.eq_iff_iff, beq_iff_eq, decide_eq_true_eq]
  | .str _, .tup _, _, _ => by simp only [D.p, PyData.eqv, D.beqA]
  | .tup _, .non, _, _ => by simp only [D.p, PyData.eqv, D.beqA]
  | .tup _, .int _, _, _ => by simp only [D.p, PyData.eqv, D.beqA]
  | .tup _, .str _, _, _ => by simp only [D.p, PyData.eqv, D.beqA]
  | .tup xs, .tup ys, h1, h2 => by
    simp only [D.kk] at h1 h2
    simp only [D.p, PyData.eqv, D.beqA, kks_eqv h1 h2]
  | .bl _, _, h, _ => by simp only [D.kk] at h; cases h
  | .fl _, _, h, _ => by simp only [D.kk] at h; cases h
  | .sc _, _, h, _ => by simp only [D.kk] at h; cases h
  | .ref _, _, h, _ => by simp only [D.kk] at h; cases h
  | _, .bl _, _, h => by simp only [D.kk] at h; cases h
  | _, .fl _, _, h => by simp only [D.kk] at h; cases h
  | _, .sc _, _, h => by simp only [D.kk] at h; cases h
  | _, .ref _, _, h => by simp only [D.kk] at h; cases h
theorem kks_eqv : ∀ {a b : List D}, D.kks a = true → D.kks b = true → PyData.eqvAll (D.ps a) (D.ps b) = D.beqsA a b
  | [], [], _, _ => by simp only [D.ps, PyData.eqvAll, D.beqsA]
  | [], _ :: _, _, _ => by simp only [D.ps, PyData.eqvAll, D.beqsA]
  | _ :: _, [], _, _ => by simp only [D.ps, PyData.eqvAll, D.beqsA]
  | x :: xs, y :: ys, h1, h2 => by
    simp only [D.kks] at h1 h2
    obtain ⟨h1, h3⟩ := ba h1
    obtain ⟨h2, h4⟩ := ba h2
    simp only [D.ps, PyData.eqvAll, D.beqsA, kk_eqv h1 h2, kks_eqv h3 h4]
end
mutual
theorem D.beqA_refl : ∀ {a : D}, a.kk = true → D.beqA a a = true
  | .non, _ => by simp only [D.beqA]
  | .int _, _ => by simp only [D.beqA, decide_true]
  | .str _, _ => by simp only [D.beqA, decide_true]
  | .tup xs, h => by simp only [D.kk] at h; simp only [D.beqA]; exact D.beqsA_refl h
  | .bl _, h => by simp only [D.kk] at h; cases h
  | .fl _, h => by simp only [D.kk] at h; cases h
  | .sc _, h => by simp only [D.kk] at h; cases h
  | .ref _, h => by simp only [D.kk] at h; cases h
theorem D.beqsA_refl : ∀ {a : List D}, D.kks a = true → D.beqsA a a = true
  | [], _ => by simp only [D.beqsA]
  | x :: xs, h => by
    simp only [D.kks] at h
    obtain ⟨h1, h2⟩ := ba h
    simp only [D.beqsA, D.beqA_refl h1, D.beqsA_refl h2, Bool.and_self]
end
theorem D.beqA_iff {a b : D} (h : a.kk = true) : D.beqA a b = true ↔ a = b := ⟨D.beqA_eq, fun e => by subst e; exact D.beqA_refl h⟩
theorem D.beqsA_iff {a b : List D} (h : D.kks a = true) : D.beqsA a b = true ↔ a = b := ⟨D.beqsA_eq, fun e => by subst e; exact D.beqsA_refl h⟩
/-- data alone, not too deep, that may be compared -/
def D.ek (d : D) : Bool := d.kk && decide (d.dep ≤ 60)
theorem ek_shaped {d : D} (h : d.ek = true) : SeqAt.shaped d.p = true := by
  obtain ⟨h1, h2⟩ := ba h
  have h2 := of_decide_eq_true h2
  unfold SeqAt.shaped
  rw [kk_lay h1, D.dep_p]
  exact decide_eq_true (by omega)
theorem ek_py {d : D} (h : d.ek = true) (k : Hh) : (RV.d d).py k = some d.p := by
  obtain ⟨h1, h2⟩ := ba h
  have hp := kk_pure h1
  cases d <;> first | rfl | (show (if _ then _ else _) = _; rw [if_pos hp]; done) | (simp only [D.kk] at h1; cases h1)
theorem cmp_eq_k {a b : D} (ha : a.ek = true) (hb : b.ek = true) (h : Hh) : cmpK .eq (.d a) (.d b) h = .ok (.d (.bl (D.beqA a b))) h := by
  unfold cmpK cmpOp
  simp only [ek_py ha, ek_py hb, ek_shaped ha, ek_shaped hb, kk_eqv (ba ha).1 (ba hb).1, Bool.and_self, if_true]
  rfl
theorem cmp_ne_k {a b : D} (ha : a.ek = true) (hb : b.ek = true) (h : Hh) : cmpK .ne (.d a) (.d b) h = .ok (.d (.bl (!D.beqA a b))) h := by
  unfold cmpK cmpOp
  simp only [ek_py ha, ek_py hb, ek_shaped ha, ek_shaped hb, kk_eqv (ba ha).1 (ba hb).1, Bool.and_self, if_true]
  rfl
theorem int_shaped (i : Int) : SeqAt.shaped (.int i) = true := by
  unfold SeqAt.shaped; simp only [PyData.canLay0, PyData.depth]; rfl
theorem bl_shaped (i : Bool) : SeqAt.shaped (.bool i) = true := by
  unfold SeqAt.shaped; simp only [PyData.canLay0, PyData.depth]; rfl
theorem eqv_int (i j : Int) : PyData.eqv (.int i) (.int j) = decide (i = j) := by
  simp only [PyData.eqv]; rw [Bool.eq_iff_iff, beq_iff_eq, decide_eq_true_eq]
theorem eqv_bl (i j : Bool) : PyData.eqv (.bool i) (.bool j) = decide (i = j) := by
  simp only [PyData.eqv]; rw [Bool.eq_iff_iff, beq_iff_eq, decide_eq_true_eq]
theorem cmp_eq_i (i j : Int) (h : Hh) : cmpK .eq (.d (.int i)) (.d (.int j)) h = .ok (.d (.bl (decide (i = j)))) h := by
  have e : ∀ i : Int, (RV.d (.int i)).py h = some (.int i) := fun i => rfl
  unfold cmpK cmpOp
  simp only [e, int_shaped, eqv_int, Bool.and_self, if_true]; rfl
theorem cmp_ne_i (i j : Int) (h : Hh) : cmpK .ne (.d (.int i)) (.d (.int j)) h = .ok (.d (.bl (!decide (i = j)))) h := by
  have e : ∀ i : Int, (RV.d (.int i)).py h = some (.int i) := fun i => rfl
  unfold cmpK cmpOp
  simp only [e, int_shaped, eqv_int, Bool.and_self, if_true]; rfl
theorem cmp_eq_b (i j : Bool) (h : Hh) : cmpK .eq (.d (.bl i)) (.d (.bl j)) h = .ok (.d (.bl (decide (i = j)))) h := by
  have e : ∀ i : Bool, (RV.d (.bl i)).py h = some (.bool i) := fun i => rfl
  unfold cmpK cmpOp
  simp only [e, bl_shaped, eqv_bl, Bool.and_self, if_true]; rfl
theorem cmp_ne_b (i j : Bool) (h : Hh) : cmpK .ne (.d (.bl i)) (.d (.bl j)) h = .ok (.d (.bl (!decide (i = j)))) h := by
  have e : ∀ i : Bool, (RV.d (.bl i)).py h = some (.bool i) := fun i => rfl
  unfold cmpK cmpOp
  simp only [e, bl_shaped, eqv_bl, Bool.and_self, if_true]; rfl
/-- lists of such data -/
def lek (xs : List D) : Bool := D.kks xs && decide (D.deps xs ≤ 60)
theorem lek_shaped {xs : List D} (h : lek xs = true) : SeqAt.shaped (.list (D.ps xs)) = true := by
  obtain ⟨h1, h2⟩ := ba h
  have h2 := of_decide_eq_true h2
  unfold SeqAt.shaped
  simp only [PyData.canLay0, PyData.depth, kks_lay h1, D.deps_p, Bool.true_and]
  exact decide_eq_true (by omega)
theorem lek_py {xs : List D} (hx : lek xs = true) (h : Hh) : (RV.lst xs).py h = some (PyData.list (D.ps xs)) := if_pos (kks_pure (ba hx).1)
theorem ref_py {n : Nat} {xs : List D} (hx : lek xs = true) {h : Hh} (e : h[n]? = some (.lst xs)) : (RV.d (.ref n)).py h = some (PyData.list (D.ps xs)) := by
  show (match h[n]? with | some (.lst xs) => if D.pures xs then some (PyData.list (D.ps xs)) else none | _ => none) = _
  rw [e]; exact if_pos (kks_pure (ba hx).1)
theorem fl_py {xs : List D} (hx : lek xs = true) (h : Hh) : (RV.d (.fl xs)).py h = some (.list (D.ps xs)) := if_pos (kks_pure (ba hx).1)
theorem eqv_lists {xs ys : List D} (h1 : lek xs = true) (h2 : lek ys = true) : PyData.eqv (.list (D.ps xs)) (.list (D.ps ys)) = D.beqsA xs ys := by
  simp only [PyData.eqv, kks_eqv (ba h1).1 (ba h2).1]
theorem cmp_eq_l {x y : RV} {xs ys : List D} {h : Hh} (hx : lek xs = true) (hy : lek ys = true) (e1 : x.py h = some (.list (D.ps xs))) (e2 : y.py h = some (.list (D.ps ys))) : cmpK .eq x y h = .ok (.d (.bl (D.beqsA xs ys))) h := by
  unfold cmpK cmpOp
  simp only [e1, e2, lek_shaped hx, lek_shaped hy, eqv_lists hx hy, Bool.and_self, if_true]
  rfl
theorem cmp_ne_l {x y : RV} {xs ys : List D} {h : Hh} (hx : lek xs = true) (hy : lek ys = true) (e1 : x.py h = some (.list (D.ps xs))) (e2 : y.py h = some (.list (D.ps ys))) : cmpK .ne x y h = .ok (.d (.bl (!D.beqsA xs ys))) h := by
  unfold cmpK cmpOp
  simp only [e1, e2, lek_shaped hx, lek_shaped hy, eqv_lists hx hy, Bool.and_self, if_true]
  rfl
theorem beqs_nil (xs : List D) : D.beqsA xs [] = xs.isEmpty := by cases xs <;> simp only [D.beqsA, List.isEmpty]
theorem lek_nil : lek [] = true := by decide
/-! ### items -/
theorem atD_zero {α : Type} (x : α) (xs : List α) : atD (x :: xs) 0 = some x := by
  unfold atD ixN
  simp only [Int.le_refl, if_true, List.length_cons]
  rw [if_pos (by omega)]; rfl
theorem atD_nat {α : Type} (xs : List α) (n : Nat) : atD xs (n : Int) = xs[n]? := by
  unfold atD ixN
  rw [if_pos (by omega)]
  by_cases hl : n < xs.length
  · rw [if_pos (by omega)]; rfl
  · rw [if_neg (by omega)]
    rw [List.getElem?_eq_none (by omega)]; rfl
theorem atD_of {α : Type} {xs : List α} {i : Int} (h1 : 0 ≤ i) : atD xs i = xs[i.toNat]? := by
  have e : i = (i.toNat : Int) := by omega
  conv => lhs; rw [e]
  exact atD_nat xs i.toNat
theorem atD_two {α : Type} (xs : List α) : atD xs 2 = xs[2]? := atD_nat xs 2
theorem atD_three {α : Type} (xs : List α) : atD xs 3 = xs[3]? := atD_nat xs 3
theorem atD_four {α : Type} (xs : List α) : atD xs 4 = xs[4]? := atD_nat xs 4
theorem atD_one {α : Type} (xs : List α) : atD xs 1 = xs[1]? := atD_nat xs 1
theorem atD_neg1 {α : Type} (xs : List α) : atD xs (-1) = xs.getLast? := by
  unfold atD ixN
  rw [if_neg (by omega)]
  cases xs with
  | nil => rfl
  | cons x r =>
    rw [if_pos (by simp only [List.length_cons]; omega), List.getLast?_eq_getElem?]
    show (x :: r)[((-1 : Int) + ((x :: r).length : Int)).toNat]? = _
    congr 1
    simp only [List.length_cons]; omega
theorem ix_tup (xs : List D) (i : Int) (h : Hh) : ixK (.d (.tup xs)) (.d (.int i)) h = R.ofO ((atD xs i).map .d) h := rfl
theorem ix_fl (xs : List D) (i : Int) (h : Hh) : ixK (.d (.fl xs)) (.d (.int i)) h = R.ofO ((atD xs i).map .d) h := rfl
theorem ix_sc (xs : List D) (i : Int) (h : Hh) : ixK (.d (.sc xs)) (.d (.int i)) h = R.ofO ((atD xs i).map .d) h := rfl
theorem ix_lst (xs : List D) (i : Int) (h : Hh) : ixK (.lst xs) (.d (.int i)) h = R.ofO ((atD xs i).map .d) h := rfl
/-- an object of the heap -/
def ixO (o : Option O) (y : D) (h : Hh) : R RV := match o with
  | some (.lst xs) => R.ofO ((qixOp xs y).map RV.d) h
  | some (.dct kvs) => R.ofO (((keyOf y).bind fun k => getK kvs k).map RV.d) h
  | none => .stuck
theorem ix_ref (n : Nat) (y : D) (h : Hh) : ixK (.d (.ref n)) (.d y) h = ixO h[n]? y h := by
  show R.ofO ((ixOp (.d (.ref n)) y h).map RV.d) h = _
  unfold ixOp
  simp only [strOf]
  cases e : h[n]? with
  | none =>
    have : (RV.d (.ref n)).seq h = none := by show (match h[n]? with | some (.lst xs) => some xs | _ => none) = _; rw [e]
    rw [this]
    show R.ofO ((dgetOp (.d (.ref n)) y h).map RV.d) h = _
    have : dgetOp (.d (.ref n)) y h = none := by show (match h[n]? with | some (.dct kvs) => _ | _ => none) = _; rw [e]
    rw [this]; rfl
  | some o =>
    cases o with
    | lst xs =>
      have : (RV.d (.ref n)).seq h = some xs := by show (match h[n]? with | some (.lst xs) => some xs | _ => none) = _; rw [e]
      rw [this]; rfl
    | dct kvs =>
      have : (RV.d (.ref n)).seq h = none := by show (match h[n]? with | some (.lst xs) => some xs | _ => none) = _; rw [e]
      rw [this]
      show R.ofO ((dgetOp (.d (.ref n)) y h).map RV.d) h = _
      have : dgetOp (.d (.ref n)) y h = (keyOf y).bind fun k => getK kvs k := by show (match h[n]? with | some (.dct kvs) => _ | _ => none) = _; rw [e]
      rw [this]; rfl
theorem ixO_lst (xs : List D) (i : Int) (h : Hh) : ixO (some (.lst xs)) (.int i) h = R.ofO ((atD xs i).map .d) h := rfl
theorem ixO_dcs (kvs : List (Key × D)) (x : Str) (h : Hh) : ixO (some (.dct kvs)) (.str x) h = R.ofO ((getK kvs (.inr x)).map .d) h := rfl
theorem ixO_dci (kvs : List (Key × D)) (x : Int) (h : Hh) : ixO (some (.dct kvs)) (.int x) h = R.ofO ((getK kvs (.inl x)).map .d) h := rfl
theorem ofO_map (o : Option D) (h : Hh) (d : D) (e : o = some d) : R.ofO (o.map RV.d) h = .ok (.d d) h := by rw [e]; rfl
theorem ofO_mapSome (d : D) (h : Hh) : R.ofO ((some d).map RV.d) h = .ok (.d d) h := rfl
/-! ### lengths and the like -/
theorem bi_len_tup (xs : List D) (h : Hh) : biK .len [.d (.tup xs)] h = .ok (.d (.int xs.length)) h := rfl
theorem bi_len_fl (xs : List D) (h : Hh) : biK .len [.d (.fl xs)] h = .ok (.d (.int xs.length)) h := rfl
theorem bi_len_sc (xs : List D) (h : Hh) : biK .len [.d (.sc xs)] h = .ok (.d (.int xs.length)) h := rfl
theorem bi_len_lst (xs : List D) (h : Hh) : biK .len [.lst xs] h = .ok (.d (.int xs.length)) h := rfl
def lenO (o : Option O) (h : Hh) : R RV := match o with
  | some (.lst xs) => .ok (.d (.int xs.length)) h
  | some (.dct kvs) => .ok (.d (.int kvs.length)) h
  | none => .stuck
theorem bi_len_ref (n : Nat) (h : Hh) : biK .len [.d (.ref n)] h = lenO h[n]? h := by
  show R.ofO (match h[n]? with | some (.lst xs) => some (RV.d (.int xs.length)) | some (.dct kvs) => some (.d (.int kvs.length)) | none => none) h = _
  cases h[n]? with
  | none => rfl
  | some o => cases o <;> rfl
theorem lenO_lst (xs : List D) (h : Hh) : lenO (some (.lst xs)) h = .ok (.d (.int xs.length)) h := rfl
theorem lenO_dct (xs : List (Key × D)) (h : Hh) : lenO (some (.dct xs)) h = .ok (.d (.int xs.length)) h := rfl
theorem bi_tuple_lst (xs : List D) (h : Hh) : biK .tuple [.lst xs] h = .ok (.d (.tup xs)) h := rfl
theorem bi_tuple_fl (xs : List D) (h : Hh) : biK .tuple [.d (.fl xs)] h = .ok (.d (.tup xs)) h := rfl
theorem bi_tuple_tup (xs : List D) (h : Hh) : biK .tuple [.d (.tup xs)] h = .ok (.d (.tup xs)) h := rfl
theorem bi_list_lst (xs : List D) (h : Hh) : biK .list [.lst xs] h = .ok (.lst xs) h := rfl
theorem bi_list_tup (xs : List D) (h : Hh) : biK .list [.d (.tup xs)] h = .ok (.lst xs) h := rfl
def seqO (o : Option O) : Option (List D) := match o with
  | some (.lst xs) => some xs
  | _ => none
theorem bi_tuple_ref (n : Nat) (h : Hh) : biK .tuple [.d (.ref n)] h = R.ofO ((seqO h[n]?).map fun xs => .d (.tup xs)) h := by
  rfl
theorem seqO_lst (xs : List D) : seqO (some (.lst xs)) = some xs := rfl
theorem bi_int (i : Int) (h : Hh) : biK .int [.d (.int i)] h = .ok (.d (.int i)) h := rfl
theorem bi_abs (i : Int) (h : Hh) : biK .abs [.d (.int i)] h = .ok (.d (.int (if i < 0 then -i else i))) h := rfl
theorem bi_max (i j : Int) (h : Hh) : biK .max [.d (.int i), .d (.int j)] h = .ok (.d (.int (if j > i then j else i))) h := rfl
theorem bi_min (i j : Int) (h : Hh) : biK .min [.d (.int i), .d (.int j)] h = .ok (.d (.int (if j < i then j else i))) h := rfl
theorem bools_ok : ∀ l : List Bool, boolsD (l.map D.bl) = some l
  | [] => rfl
  | b :: l => by show (boolsD (l.map D.bl)).map (b :: ·) = _; rw [bools_ok l]; rfl
theorem bi_all (l : List Bool) (h : Hh) : biK .all [.lst (l.map D.bl)] h = .ok (.d (.bl (l.all id))) h := by
  show R.ofO ((boolsD (l.map D.bl)).map fun ns => RV.d (.bl (ns.all id))) h = _
  rw [bools_ok]; rfl
theorem bi_any (l : List Bool) (h : Hh) : biK .any [.lst (l.map D.bl)] h = .ok (.d (.bl (l.any id))) h := by
  show R.ofO ((boolsD (l.map D.bl)).map fun ns => RV.d (.bl (ns.any id))) h = _
  rw [bools_ok]; rfl
theorem ints_ok : ∀ l : List Int, intsD (l.map D.int) = some l
  | [] => rfl
  | b :: l => by show (intsD (l.map D.int)).map (b :: ·) = _; rw [ints_ok l]; rfl
theorem bi_sum (l : List Int) (h : Hh) : biK .sum [.lst (l.map D.int)] h = .ok (.d (.int l.sum)) h := by
  show R.ofO ((intsD (l.map D.int)).map fun ns => RV.d (.int ns.sum)) h = _
  rw [ints_ok]; rfl
/-! ### kinds -/
theorem is_d (ts : List Ty) (d : D) (h : Hh) (n : ∀ k, d ≠ .ref k) : isK ts (.d d) h = .ok (.d (.bl (ts.any fun t => isTy t d))) h := by
  cases d <;> first | rfl | exact absurd rfl (n _)
theorem is_int (ts : List Ty) (i : Int) (h : Hh) : isK ts (.d (.int i)) h = .ok (.d (.bl (ts.any fun t => isTy t (.int i)))) h := rfl
theorem is_bl (ts : List Ty) (i : Bool) (h : Hh) : isK ts (.d (.bl i)) h = .ok (.d (.bl (ts.any fun t => isTy t (.bl i)))) h := rfl
theorem is_str (ts : List Ty) (i : Str) (h : Hh) : isK ts (.d (.str i)) h = .ok (.d (.bl (ts.any fun t => isTy t (.str i)))) h := rfl
theorem is_tup (ts : List Ty) (i : List D) (h : Hh) : isK ts (.d (.tup i)) h = .ok (.d (.bl (ts.any fun t => isTy t (.tup i)))) h := rfl
theorem is_fl (ts : List Ty) (i : List D) (h : Hh) : isK ts (.d (.fl i)) h = .ok (.d (.bl (ts.any fun t => isTy t (.fl i)))) h := rfl
theorem is_non (ts : List Ty) (h : Hh) : isK ts (.d .non) h = .ok (.d (.bl (ts.any fun t => isTy t .non))) h := rfl
/-! ### methods -/
theorem mth_append {n : Nat} {x : D} {xs : List D} {h : Hh} (e : h[n]? = some (.lst xs)) (hl : xs.length < line) : mthK .append (.d (.ref n)) [x] h = .ok (.d .non) (h.set n (.lst (xs ++ [x]))) := by
  unfold mthK mtOp
  simp only [e]
  rw [if_pos hl]
theorem mth_extend {n : Nat} {xs ys : List D} {h : Hh} (e : h[n]? = some (.lst xs)) (hl : xs.length + ys.length ≤ line) : mthK .extend (.d (.ref n)) [.fl ys] h = .ok (.d .non) (h.set n (.lst (xs ++ ys))) := by
  unfold mthK mtOp
  simp only [e]
  rw [if_pos hl]
theorem mth_pop {n : Nat} {x : D} {xs : List D} {h : Hh} (e : h[n]? = some (.lst (xs ++ [x]))) : mthK .pop (.d (.ref n)) [] h = .ok (.d x) (h.set n (.lst xs)) := by
  unfold mthK mtOp
  have e2 : (xs ++ [x])[(xs ++ [x]).length - 1]? = some x := by simp
  have e3 : (xs ++ [x]).dropLast = xs := by simp
  simp only [e, e2, e3]; rfl
theorem lstAt_ref {n : Nat} {xs : List D} {h : Hh} (e : h[n]? = some (.lst xs)) : lstAt (.d (.ref n)) h = true := by
  show (match h[n]? with | some (.lst _) => true | _ => false) = _
  rw [e]
theorem lstAt_e (n : Nat) (h : Hh) : lstAt (.d (.ref n)) h = (seqO h[n]?).isSome := by
  show (match h[n]? with | some (.lst _) => true | _ => false) = _
  cases h[n]? with
  | none => rfl
  | some o => cases o <;> rfl
end
/-! ### walks -/
theorem src_tup (xs : List D) (h : Hh) : srcK (.d (.tup xs)) h = .ok (.vals xs) h := rfl
theorem src_fl (xs : List D) (h : Hh) : srcK (.d (.fl xs)) h = .ok (.vals xs) h := rfl
theorem src_sc (xs : List D) (h : Hh) : srcK (.d (.sc xs)) h = .ok (.vals xs) h := rfl
theorem src_lst (xs : List D) (h : Hh) : srcK (.lst xs) h = .ok (.vals xs) h := rfl
theorem src_ref {n : Nat} {xs : List D} {h : Hh} (e : h[n]? = some (.lst xs)) : srcK (.d (.ref n)) h = .ok (.cell n) h := by
  show R.ofO (match h[n]? with | some (.lst _) => some (Src.cell n) | _ => none) h = _
  rw [e]; rfl
theorem items_vals (xs : List D) (h : Hh) : (Src.vals xs).items h = xs := rfl
theorem items_cell {n : Nat} {xs : List D} {h : Hh} (e : h[n]? = some (.lst xs)) : (Src.cell n).items h = xs := by
  show (match h[n]? with | some (.lst xs) => xs | _ => []) = _
  rw [e]
theorem rng1 (j : Int) (h : Hh) (h1 : -1000 ≤ j) (h2 : j ≤ 16777216) : rngK [.int j] h = .ok (.vals ((List.range j.toNat).map fun (i : Nat) => D.int i)) h := by
  unfold rngK
  rw [rng_one h1 h2]
  simp only [Int.zero_add]; rfl
theorem rng2 (i j : Int) (h : Hh) (h1 : -1000000 ≤ i) (h2 : i ≤ 1000000) (h3 : -1000000 ≤ j) (h4 : j ≤ 1000000) : rngK [.int i, .int j] h = .ok (.vals ((List.range (j - i).toNat).map fun (k : Nat) => D.int (i + k))) h := by
  unfold rngK rngOp
  show R.ofO (Option.map _ (if _ then _ else _)) h = _
  rw [if_pos (by omega)]; rfl
theorem enum_lst (xs : List D) (h : Hh) : enumK (.lst xs) h = .ok (.vals (enumD xs)) h := rfl
theorem enum_fl (xs : List D) (h : Hh) : enumK (.d (.fl xs)) h = .ok (.vals (enumD xs)) h := rfl
theorem zip_tup (xs ys : List D) (h : Hh) : zipK (.d (.tup xs)) (.d (.tup ys)) h = .ok (.vals (zipD xs ys)) h := rfl
theorem zip_lst (xs ys : List D) (h : Hh) : zipK (.lst xs) (.lst ys) h = .ok (.vals (zipD xs ys)) h := rfl
/-- the turns of a walk over values -/
def forV (t : I) (b : Sg → Hh → RF) : List D → Sg → Hh → RF
  | [], σ, h => .ok (.nx σ) h
  | x :: r, σ, h => match putT t x σ with
    | none => .stuck
    | some σ => match b σ h with
      | .ok (.nx σ) h => forV t b r σ h
      | .ok (.ct σ) h => forV t b r σ h
      | .ok (.bk σ) h => .ok (.nx σ) h
      | .ok (.rt v) h => .ok (.rt v) h
      | .exc x σ h => .exc x σ h
      | .stuck => .stuck
theorem forL_vals (t : I) (b : Sg → Hh → RF) (all : List D) : ∀ (xs : List D) (i : Nat) (σ : Sg) (h : Hh), forL t b (.vals all) xs i σ h = forV t b xs σ h
  | [], i, σ, h => rfl
  | x :: r, i, σ, h => by
    unfold forL forV
    show (match putT t x σ with | none => _ | some σ => _) = _
    cases putT t x σ with
    | none => rfl
    | some σ =>
      simp only
      cases b σ h with
      | ok f h => cases f <;> first | rfl | exact forL_vals t b all r _ _ _
      | _ => rfl
/-- a walk, by what holds between two turns -/
theorem forV_inv {t : I} {b : Sg → Hh → RF} {Q : RF → Prop} : ∀ (xs : List D) (P : Nat → Sg → Hh → Prop) (k : Nat) (σ : Sg) (h : Hh), P k σ h →
    (∀ i x σ h, xs[i]? = some x → P (k + i) σ h → ∃ σ1, putT t x σ = some σ1 ∧ match b σ1 h with
      | .ok (.nx σ) h => P (k + i + 1) σ h
      | .ok (.ct σ) h => P (k + i + 1) σ h
      | .ok (.bk σ) h => Q (.ok (.nx σ) h)
      | .ok (.rt v) h => Q (.ok (.rt v) h)
      | .exc x σ h => Q (.exc x σ h)
      | .stuck => False) →
    (∀ σ h, P (k + xs.length) σ h → Q (.ok (.nx σ) h)) → Q (forV t b xs σ h)
  | [], P, k, σ, h, hp, _, hq => hq σ h hp
  | x :: r, P, k, σ, h, hp, hs, hq => by
    obtain ⟨σ1, e, q⟩ := hs 0 x σ h rfl hp
    unfold forV
    rw [e]
    simp only
    have next : ∀ σ h, P (k + 1) σ h → Q (forV t b r σ h) := fun σ h hp => forV_inv r P (k + 1) σ h hp (fun i x σ h e hp => by
      have := hs (i + 1) x σ h (by simpa using e) (by rw [show k + (i + 1) = k + 1 + i from by omega]; exact hp)
      rw [show k + (i + 1) + 1 = k + 1 + i + 1 from by omega] at this
      exact this) (fun σ h hp => hq σ h (by rw [List.length_cons, show k + (r.length + 1) = k + 1 + r.length from by omega]; exact hp))
    cases e2 : b σ1 h with
    | ok f h =>
      rw [e2] at q
      cases f with
      | nx σ => exact next _ _ q
      | ct σ => exact next _ _ q
      | bk σ => exact q
      | rt v => exact q
    | exc x σ h => rw [e2] at q; exact q
    | stuck => rw [e2] at q; exact q.elim
/-- the turns of a comprehension over values -/
theorem turns_map {t : I} {c e : Sg → Hh → R RV} {all : List D} {σ : Sg} {h : Hh} (p : D → Bool) (f : D → D) : ∀ (xs : List D) (i : Nat),
    (∀ x ∈ xs, ∃ σ1, putT t x σ = some σ1 ∧ c σ1 h = .ok (.d (.bl (p x))) h ∧ (p x = true → ∃ y, e σ1 h = .ok y h ∧ y.toD = some (f x))) →
    turns t c e (.vals all) σ xs i h = .ok ((xs.filter p).map f) h
  | [], i, _ => rfl
  | x :: r, i, H => by
    obtain ⟨σ1, e1, e2, e3⟩ := H x List.mem_cons_self
    have ih := turns_map (all := all) p f r (i + 1) fun x hx => H x (List.mem_cons_of_mem _ hx)
    unfold turns
    show (match putT t x σ with | none => _ | some σ1 => _) = _
    rw [e1]
    simp only [e2, R.noX_ok, R.bind_ok]
    cases hp : p x with
    | false => simp only [List.filter_cons, hp]; exact ih
    | true =>
      obtain ⟨y, e4, e5⟩ := e3 hp
      simp only [List.filter_cons, hp, if_true, List.map_cons, e4, R.noX_ok, R.bind_ok, e5, ih]
/-- the same over typed items -/
theorem turns_mapT {α : Type} {t : I} {c e : Sg → Hh → R RV} {all : List D} {σ : Sg} {h : Hh} (u : α → D) (p : α → Bool) (f : α → D) : ∀ (xs : List α) (i : Nat),
    (∀ x ∈ xs, ∃ σ1, putT t (u x) σ = some σ1 ∧ c σ1 h = .ok (.d (.bl (p x))) h ∧ (p x = true → ∃ y, e σ1 h = .ok y h ∧ y.toD = some (f x))) →
    turns t c e (.vals all) σ (xs.map u) i h = .ok ((xs.filter p).map f) h
  | [], i, _ => rfl
  | x :: r, i, H => by
    obtain ⟨σ1, e1, e2, e3⟩ := H x List.mem_cons_self
    have ih := turns_mapT (all := all) u p f r (i + 1) fun x hx => H x (List.mem_cons_of_mem _ hx)
    rw [List.map_cons]
    unfold turns
    show (match putT t (u x) σ with | none => _ | some σ1 => _) = _
    rw [e1]
    simp only [e2, R.noX_ok, R.bind_ok]
    cases hp : p x with
    | false => simp only [List.filter_cons, hp]; exact ih
    | true =>
      obtain ⟨y, e4, e5⟩ := e3 hp
      simp only [List.filter_cons, hp, if_true, List.map_cons, e4, R.noX_ok, R.bind_ok, e5, ih]
theorem turns_cell {t : I} {c e : Sg → Hh → R RV} {n : Nat} {σ : Sg} {h : Hh} {all : List D} (hn : h[n]? = some (.lst all)) (p : D → Bool) (f : D → D) : ∀ (xs : List D) (i : Nat), all.drop i = xs →
    (∀ x ∈ xs, ∃ σ1, putT t x σ = some σ1 ∧ c σ1 h = .ok (.d (.bl (p x))) h ∧ (p x = true → ∃ y, e σ1 h = .ok y h ∧ y.toD = some (f x))) →
    turns t c e (.cell n) σ xs i h = .ok ((xs.filter p).map f) h
  | [], i, hd, _ => by
    unfold turns
    have : (Src.cell n).fin h i = true := by
      show (match h[n]? with | some (.lst xs) => decide (xs.length ≤ i) | _ => false) = _
      rw [hn]; exact decide_eq_true (by simpa using hd)
    rw [this]; rfl
  | x :: r, i, hd, H => by
    obtain ⟨σ1, e1, e2, e3⟩ := H x List.mem_cons_self
    have hx : all[i]? = some x := by
      have : (all.drop i)[0]? = some x := by rw [hd]; rfl
      simpa using this
    have hr : all.drop (i + 1) = r := by
      have : (all.drop i).drop 1 = r := by rw [hd]; rfl
      simpa [List.drop_drop] using this
    have ih := turns_cell hn p f r (i + 1) hr fun x hx => H x (List.mem_cons_of_mem _ hx)
    unfold turns
    have : (Src.cell n).cur h i x = some x := by
      show (match h[n]? with | some (.lst xs) => xs[i]? | _ => none) = _
      rw [hn]; exact hx
    simp only [this, e1, e2, R.noX_ok, R.bind_ok]
    cases hp : p x with
    | false => simp only [List.filter_cons, hp]; exact ih
    | true =>
      obtain ⟨y, e4, e5⟩ := e3 hp
      simp only [List.filter_cons, hp, if_true, List.map_cons, e4, R.noX_ok, R.bind_ok, e5, ih]
end Cw
end

section
set_option Elab.async false
set_option linter.all false
set_option maxRecDepth 100000
set_option maxHeartbeats 1000000
/-! Cw31: objects of the heap by what lies there; walks that change no heap. -/
namespace Cw
open PySem PySem.Spec PyProof.Rows L2

theorem bin_pow (i j : Int) (h : Hh) (h1 : 0 ≤ j) (h2 : j ≤ 1000000) (h3 : -9223372036854775808 ≤ i) (h4 : i ≤ 9223372036854775807) : binK .pow (.d (.int i)) (.d (.int j)) h = .ok (.d (.int (i ^ j.toNat))) h := by
  have : 0 ≤ j ∧ j ≤ 1000000 ∧ i.natAbs < 2 ^ 64 := ⟨h1, h2, by omega⟩
  unfold binK binOp
  show R.ofO (if _ then _ else _) h = _
  rw [if_pos this]; rfl
/-- x == [] and x != [] of an object -/
def nilO (ne : Bool) (o : Option O) (x : RV) (h : Hh) : R RV := match o with
  | some (.lst xs) => if lek xs = true then .ok (.d (.bl (if ne then !xs.isEmpty else xs.isEmpty))) h else cmpK (if ne then .ne else .eq) x (.lst []) h
  | _ => cmpK (if ne then .ne else .eq) x (.lst []) h
theorem cmp_ne_refnil (n : Nat) (h : Hh) : cmpK .ne (.d (.ref n)) (.lst []) h = nilO true h[n]? (.d (.ref n)) h := by
  unfold nilO
  cases e : h[n]? with
  | none => rfl
  | some o =>
    cases o with
    | dct _ => rfl
    | lst xs =>
      by_cases hl : lek xs = true
      · simp only [hl, if_true]
        rw [cmp_ne_l hl lek_nil (ref_py hl e) (lek_py lek_nil h), beqs_nil]
      · simp only [hl]; rfl
theorem cmp_eq_refnil (n : Nat) (h : Hh) : cmpK .eq (.d (.ref n)) (.lst []) h = nilO false h[n]? (.d (.ref n)) h := by
  unfold nilO
  cases e : h[n]? with
  | none => rfl
  | some o =>
    cases o with
    | dct _ => rfl
    | lst xs =>
      by_cases hl : lek xs = true
      · simp only [hl, if_true]
        rw [cmp_eq_l hl lek_nil (ref_py hl e) (lek_py lek_nil h), beqs_nil]; rfl
      · simp only [hl]; rfl
theorem nilO_ne (xs : List D) (x : RV) (h : Hh) (hl : lek xs = true) : nilO true (some (.lst xs)) x h = .ok (.d (.bl (!xs.isEmpty))) h := by unfold nilO; simp only [hl, if_true]
theorem nilO_eq (xs : List D) (x : RV) (h : Hh) (hl : lek xs = true) : nilO false (some (.lst xs)) x h = .ok (.d (.bl xs.isEmpty)) h := by unfold nilO; simp only [hl, if_true]; rfl
theorem cmp_eq_ll (xs ys : List D) (h : Hh) (hx : lek xs = true) (hy : lek ys = true) : cmpK .eq (.lst xs) (.lst ys) h = .ok (.d (.bl (D.beqsA xs ys))) h := cmp_eq_l hx hy (lek_py hx h) (lek_py hy h)
theorem cmp_ne_ll (xs ys : List D) (h : Hh) (hx : lek xs = true) (hy : lek ys = true) : cmpK .ne (.lst xs) (.lst ys) h = .ok (.d (.bl (!D.beqsA xs ys))) h := cmp_ne_l hx hy (lek_py hx h) (lek_py hy h)
theorem cmp_eq_fl (xs ys : List D) (h : Hh) (hx : lek xs = true) (hy : lek ys = true) : cmpK .eq (.d (.fl xs)) (.lst ys) h = .ok (.d (.bl (D.beqsA xs ys))) h := cmp_eq_l hx hy (fl_py hx h) (lek_py hy h)
theorem cmp_ne_fl (xs ys : List D) (h : Hh) (hx : lek xs = true) (hy : lek ys = true) : cmpK .ne (.d (.fl xs)) (.lst ys) h = .ok (.d (.bl (!D.beqsA xs ys))) h := cmp_ne_l hx hy (fl_py hx h) (lek_py hy h)
theorem cmp_eq_ff (xs ys : List D) (h : Hh) (hx : lek xs = true) (hy : lek ys = true) : cmpK .eq (.d (.fl xs)) (.d (.fl ys)) h = .ok (.d (.bl (D.beqsA xs ys))) h := cmp_eq_l hx hy (fl_py hx h) (fl_py hy h)
theorem cmp_ne_ff (xs ys : List D) (h : Hh) (hx : lek xs = true) (hy : lek ys = true) : cmpK .ne (.d (.fl xs)) (.d (.fl ys)) h = .ok (.d (.bl (!D.beqsA xs ys))) h := cmp_ne_l hx hy (fl_py hx h) (fl_py hy h)
theorem lek_map {α : Type} (f : α → D) (l : List α) (hk : ∀ x ∈ l, (f x).kk = true) (hd : ∀ x ∈ l, (f x).dep ≤ 60) : lek (l.map f) = true := by
  have h1 : ∀ l : List α, (∀ x ∈ l, (f x).kk = true) → D.kks (l.map f) = true := fun l => by
    induction l with
    | nil => intro _; rfl
    | cons x r ih => intro hx; simp only [List.map_cons, D.kks, hx x List.mem_cons_self, ih fun y hy => hx y (List.mem_cons_of_mem _ hy), Bool.and_self]
  have h2 : ∀ l : List α, (∀ x ∈ l, (f x).dep ≤ 60) → D.deps (l.map f) ≤ 60 := fun l => by
    induction l with
    | nil => intro _; exact Nat.zero_le _
    | cons x r ih => intro hx; simp only [List.map_cons, D.deps]; exact Nat.max_le.mpr ⟨hx x List.mem_cons_self, ih fun y hy => hx y (List.mem_cons_of_mem _ hy)⟩
  unfold lek
  rw [h1 l hk]
  exact decide_eq_true (h2 l hd)
theorem lek_intmap {α : Type} (f : α → Int) (l : List α) : lek (l.map fun x => D.int (f x)) = true := lek_map _ l (fun _ _ => rfl) fun _ _ => Nat.zero_le _
theorem lek_ints (l : List Int) : lek (l.map D.int) = true := lek_map _ l (fun _ _ => rfl) fun _ _ => Nat.zero_le _
/-- pop, append, extend of an object -/
def popO (o : Option O) (n : Nat) (h : Hh) : R RV := match o with
  | some (.lst xs) => (match xs[xs.length - 1]? with
    | some y => .ok (.d y) (h.set n (.lst xs.dropLast))
    | none => .stuck)
  | _ => .stuck
theorem mth_popO (n : Nat) (h : Hh) : mthK .pop (.d (.ref n)) [] h = popO h[n]? n h := by
  unfold mthK mtOp popO
  simp only
  cases h[n]? with
  | none => rfl
  | some o =>
    cases o with
    | dct _ => rfl
    | lst xs =>
      simp only
      cases xs[xs.length - 1]? <;> rfl
theorem popO_last (xs : List D) (x : D) (n : Nat) (h : Hh) : popO (some (.lst (xs ++ [x]))) n h = .ok (.d x) (h.set n (.lst xs)) := by
  unfold popO
  have e2 : (xs ++ [x])[(xs ++ [x]).length - 1]? = some x := by simp
  have e3 : (xs ++ [x]).dropLast = xs := by simp
  simp only [e2, e3]
def appO (o : Option O) (n : Nat) (x : D) (h : Hh) : R RV := match o with
  | some (.lst xs) => if xs.length < line then .ok (.d .non) (h.set n (.lst (xs ++ [x]))) else .stuck
  | _ => .stuck
theorem mth_appO (n : Nat) (x : D) (h : Hh) : mthK .append (.d (.ref n)) [x] h = appO h[n]? n x h := by
  unfold mthK mtOp appO
  simp only
  cases h[n]? with
  | none => rfl
  | some o =>
    cases o with
    | dct _ => rfl
    | lst xs =>
      by_cases hl : xs.length < line
      · simp only [hl, if_true]
      · simp only [hl, if_false]
theorem appO_lst (xs : List D) (n : Nat) (x : D) (h : Hh) (hl : xs.length < line) : appO (some (.lst xs)) n x h = .ok (.d .non) (h.set n (.lst (xs ++ [x]))) := by unfold appO; simp only [hl, if_true]
def extO (o : Option O) (n : Nat) (ys : List D) (h : Hh) : R RV := match o with
  | some (.lst xs) => if xs.length + ys.length ≤ line then .ok (.d .non) (h.set n (.lst (xs ++ ys))) else .stuck
  | _ => .stuck
theorem mth_extO (n : Nat) (ys : List D) (h : Hh) : mthK .extend (.d (.ref n)) [.fl ys] h = extO h[n]? n ys h := by
  unfold mthK mtOp extO
  simp only
  cases h[n]? with
  | none => rfl
  | some o =>
    cases o with
    | dct _ => rfl
    | lst xs =>
      by_cases hl : xs.length + ys.length ≤ line
      · simp only [hl, if_true]
      · simp only [hl, if_false]
theorem extO_lst (xs : List D) (n : Nat) (ys : List D) (h : Hh) (hl : xs.length + ys.length ≤ line) : extO (some (.lst xs)) n ys h = .ok (.d .non) (h.set n (.lst (xs ++ ys))) := by unfold extO; simp only [hl, if_true]
/-- x[i] = d of an object -/
def putO (o : Option O) (n : Nat) (y d : D) (σ : Sg) (h : Hh) : R Sg := match o with
  | some (.lst xs) => (match y with
    | .int k => (match ixN xs.length k with
      | some j => .ok σ (h.set n (.lst (xs.set j d)))
      | none => .stuck)
    | _ => .stuck)
  | some (.dct kvs) => (match keyOf y with
    | some k => if kvs.length < line then .ok σ (h.set n (.dct (setK kvs k d))) else .stuck
    | none => .stuck)
  | none => .stuck
theorem putK_O (n : Nat) (y d : D) (σ : Sg) (h : Hh) : putK n y d σ h = putO h[n]? n y d σ h := by
  unfold putK putI putO
  cases h[n]? with
  | none => rfl
  | some o =>
    cases o with
    | lst xs =>
      cases y with
      | int k => simp only; cases ixN xs.length k <;> rfl
      | _ => rfl
    | dct kvs =>
      simp only
      cases keyOf y with
      | none => rfl
      | some k =>
        simp only [Option.bind]
        by_cases hl : kvs.length < line
        · simp only [hl, if_true]
        · simp only [hl, if_false]
theorem putO_lst (xs : List D) (n j : Nat) (d : D) (σ : Sg) (h : Hh) (hj : j < xs.length) : putO (some (.lst xs)) n (.int (j : Nat)) d σ h = .ok σ (h.set n (.lst (xs.set j d))) := by
  have e : ixN xs.length ((j : Nat) : Int) = some j := by unfold ixN; rw [if_pos (by omega), if_pos (by omega)]; rfl
  unfold putO; simp only [e]
theorem putO_lst' (xs : List D) (n : Nat) (i : Int) (d : D) (σ : Sg) (h : Hh) (h0 : 0 ≤ i) (hj : i.toNat < xs.length) : putO (some (.lst xs)) n (.int i) d σ h = .ok σ (h.set n (.lst (xs.set i.toNat d))) := by
  have e : i = (i.toNat : Int) := by omega
  conv => lhs; rw [e]
  exact putO_lst xs n i.toNat d σ h hj
theorem putO_dcs (kvs : List (Key × D)) (n : Nat) (x : Str) (d : D) (σ : Sg) (h : Hh) (hl : kvs.length < line) : putO (some (.dct kvs)) n (.str x) d σ h = .ok σ (h.set n (.dct (setK kvs (.inr x) d))) := by
  unfold putO keyOf; simp only [hl, if_true]
theorem putO_dci (kvs : List (Key × D)) (n : Nat) (x : Int) (d : D) (σ : Sg) (h : Hh) (hl : kvs.length < line) : putO (some (.dct kvs)) n (.int x) d σ h = .ok σ (h.set n (.dct (setK kvs (.inl x) d))) := by
  unfold putO keyOf; simp only [hl, if_true]
/-- what a reference's walk is over -/
def srcO (o : Option O) (n : Nat) (h : Hh) : R Src := match o with
  | some (.lst _) => .ok (.cell n) h
  | _ => .stuck
theorem src_refO (n : Nat) (h : Hh) : srcK (.d (.ref n)) h = srcO h[n]? n h := by
  show R.ofO (match h[n]? with | some (.lst _) => some (Src.cell n) | _ => none) h = _
  unfold srcO
  cases h[n]? with
  | none => rfl
  | some o => cases o <;> rfl
theorem srcO_lst (xs : List D) (n : Nat) (h : Hh) : srcO (some (.lst xs)) n h = .ok (.cell n) h := rfl
def itemsO (o : Option O) : List D := match o with
  | some (.lst xs) => xs
  | _ => []
theorem items_cellO (n : Nat) (h : Hh) : (Src.cell n).items h = itemsO h[n]? := rfl
theorem itemsO_lst (xs : List D) : itemsO (some (.lst xs)) = xs := rfl
/-! ### walks over an object that stays -/
/-- what is walked: these values -/
def SrcIs (s : Src) (h : Hh) (xs : List D) : Prop := (∃ ys, s = .vals ys) ∨ ∃ n, s = .cell n ∧ h[n]? = some (.lst xs)
theorem SrcIs.cur {s : Src} {h : Hh} {xs : List D} (q : SrcIs s h xs) {i : Nat} {x : D} (e : xs[i]? = some x) : s.cur h i x = some x := by
  rcases q with ⟨ys, q⟩ | ⟨n, q, hn⟩
  · subst q; rfl
  · subst q
    show (match h[n]? with | some (.lst xs) => xs[i]? | _ => none) = _
    rw [hn]; exact e
theorem SrcIs.fin {s : Src} {h : Hh} {xs : List D} (q : SrcIs s h xs) {i : Nat} (e : xs.length ≤ i) : s.fin h i = true := by
  rcases q with ⟨ys, q⟩ | ⟨n, q, hn⟩
  · subst q; rfl
  · subst q
    show (match h[n]? with | some (.lst xs) => decide (xs.length ≤ i) | _ => false) = _
    rw [hn]; exact decide_eq_true e
/-- a walk that changes no heap and always goes on -/
theorem forL_still {t : I} {b : Sg → Hh → RF} {s : Src} {h : Hh} {all : List D} (q : SrcIs s h all) (P : Sg → Prop) (step : ∀ x ∈ all, ∀ σ, P σ → ∃ σ1 σ2, putT t x σ = some σ1 ∧ (b σ1 h = .ok (.nx σ2) h ∨ b σ1 h = .ok (.ct σ2) h) ∧ P σ2) : ∀ (xs : List D) (i : Nat) (σ : Sg), all.drop i = xs → P σ → ∃ σ', forL t b s xs i σ h = .ok (.nx σ') h ∧ P σ'
  | [], i, σ, hd, hp => ⟨σ, by unfold forL; rw [q.fin (by simpa using hd)]; rfl, hp⟩
  | x :: r, i, σ, hd, hp => by
    have hx : all[i]? = some x := by
      have : (all.drop i)[0]? = some x := by rw [hd]; rfl
      simpa using this
    have hr : all.drop (i + 1) = r := by
      have : (all.drop i).drop 1 = r := by rw [hd]; rfl
      simpa [List.drop_drop] using this
    obtain ⟨σ1, σ2, e1, e2, p2⟩ := step x (List.mem_of_getElem? hx) σ hp
    obtain ⟨σ', e3, p3⟩ := forL_still q P step r (i + 1) σ2 hr p2
    refine ⟨σ', ?_, p3⟩
    unfold forL
    rw [q.cur hx]
    simp only [e1]
    rcases e2 with e2 | e2 <;> simp only [e2, e3]
theorem forL_still0 {t : I} {b : Sg → Hh → RF} {s : Src} {h : Hh} {all : List D} {σ : Sg} (q : SrcIs s h all) (P : Sg → Prop) (hp : P σ) (step : ∀ x ∈ all, ∀ σ, P σ → ∃ σ1 σ2, putT t x σ = some σ1 ∧ (b σ1 h = .ok (.nx σ2) h ∨ b σ1 h = .ok (.ct σ2) h) ∧ P σ2) : ∃ σ', forL t b s all 0 σ h = .ok (.nx σ') h ∧ P σ' := forL_still q P step all 0 σ rfl hp
/-- the turns of a comprehension, whose elements may change the heap -/
theorem turns_inv {t : I} {c e : Sg → Hh → R RV} {s : Src} {σ : Sg} {all : List D} (P : Hh → Prop) (V : D → Prop) (hs : ∀ h, P h → SrcIs s h all) (step : ∀ x ∈ all, ∀ h, P h → ∃ σ1 y d h', putT t x σ = some σ1 ∧ c σ1 h = .ok (.d (.bl true)) h ∧ e σ1 h = .ok y h' ∧ y.toD = some d ∧ V d ∧ P h') : ∀ (xs : List D) (i : Nat) (h : Hh), all.drop i = xs → P h → ∃ ds h', turns t c e s σ xs i h = .ok ds h' ∧ ds.length = xs.length ∧ (∀ d ∈ ds, V d) ∧ P h'
  | [], i, h, hd, hp => ⟨[], h, by unfold turns; rw [(hs h hp).fin (by simpa using hd)]; rfl, rfl, (fun _ z => nomatch z), hp⟩
  | x :: r, i, h, hd, hp => by
    have hx : all[i]? = some x := by
      have : (all.drop i)[0]? = some x := by rw [hd]; rfl
      simpa using this
    have hr : all.drop (i + 1) = r := by
      have : (all.drop i).drop 1 = r := by rw [hd]; rfl
      simpa [List.drop_drop] using this
    obtain ⟨σ1, y, d, h1, e1, e2, e3, e4, hv, p1⟩ := step x (List.mem_of_getElem? hx) h hp
    obtain ⟨ds, h2, e5, e6, e7, p2⟩ := turns_inv P V hs step r (i + 1) h1 hr p1
    refine ⟨d :: ds, h2, ?_, by simp [e6], fun z hz => (List.mem_cons.mp hz).elim (fun q => q ▸ hv) (e7 z), p2⟩
    unfold turns
    rw [(hs h hp).cur hx]
    simp only [e1, e2, R.noX_ok, R.bind_ok, e3, e4, e5]
theorem turns_inv0 {t : I} {c e : Sg → Hh → R RV} {s : Src} {σ : Sg} {all : List D} {h : Hh} (P : Hh → Prop) (V : D → Prop) (hs : ∀ h, P h → SrcIs s h all) (hp : P h) (step : ∀ x ∈ all, ∀ h, P h → ∃ σ1 y d h', putT t x σ = some σ1 ∧ c σ1 h = .ok (.d (.bl true)) h ∧ e σ1 h = .ok y h' ∧ y.toD = some d ∧ V d ∧ P h') : ∃ ds h', turns t c e s σ all 0 h = .ok ds h' ∧ ds.length = all.length ∧ (∀ d ∈ ds, V d) ∧ P h' := turns_inv P V hs step all 0 h rfl hp
/-- the turns of a comprehension that changes no heap, over any of both sources -/
theorem turns_any {t : I} {c e : Sg → Hh → R RV} {s : Src} {σ : Sg} {h : Hh} {all : List D} (q : SrcIs s h all) (p : D → Bool) (f : D → D)
    (H : ∀ x ∈ all, ∃ σ1, putT t x σ = some σ1 ∧ c σ1 h = .ok (.d (.bl (p x))) h ∧ (p x = true → ∃ y, e σ1 h = .ok y h ∧ y.toD = some (f x))) :
    turns t c e s σ all 0 h = .ok ((all.filter p).map f) h := by
  rcases q with ⟨ys, q⟩ | ⟨n, q, hn⟩
  · subst q; exact turns_map p f all 0 H
  · subst q; exact turns_cell hn p f all 0 rfl H
theorem cutD_all {α : Type} (xs : List α) (k : Nat) (h : xs.length ≤ k) : cutD xs none (some (k : Int)) = xs := by
  unfold cutD
  rw [HT.sIx_nat]
  show (xs.drop 0).take (min k xs.length - 0) = xs
  rw [List.drop_zero, Nat.min_eq_right h]; simp
theorem sl_sc (xs : List D) (l r : Option Int) (h : Hh) : slK (.d (.sc xs)) l r h = .ok (.lst (cutD xs l r)) h := rfl
theorem sl_fl (xs : List D) (l r : Option Int) (h : Hh) : slK (.d (.fl xs)) l r h = .ok (.lst (cutD xs l r)) h := rfl
theorem sl_lst (xs : List D) (l r : Option Int) (h : Hh) : slK (.lst xs) l r h = .ok (.lst (cutD xs l r)) h := rfl
theorem sl_tup (xs : List D) (l r : Option Int) (h : Hh) : slK (.d (.tup xs)) l r h = .ok (.d (.tup (cutD xs l r))) h := rfl
def slO (o : Option O) (l r : Option Int) (h : Hh) : R RV := match o with
  | some (.lst xs) => .ok (.lst (cutD xs l r)) h
  | _ => .stuck
theorem sl_refO (n : Nat) (l r : Option Int) (h : Hh) : slK (.d (.ref n)) l r h = slO h[n]? l r h := by
  show R.ofO ((match h[n]? with | some (.lst xs) => some xs | _ => none : Option (List D)).map _) h = _
  unfold slO
  cases h[n]? with
  | none => rfl
  | some o => cases o <;> rfl
theorem slO_lst (xs : List D) (l r : Option Int) (h : Hh) : slO (some (.lst xs)) l r h = .ok (.lst (cutD xs l r)) h := rfl
theorem rev_lst (xs : List D) (h : Hh) : revK (.lst xs) h = .ok (.lst xs.reverse) h := rfl
theorem rev_tup (xs : List D) (h : Hh) : revK (.d (.tup xs)) h = .ok (.d (.tup xs.reverse)) h := rfl
theorem rev_fl (xs : List D) (h : Hh) : revK (.d (.fl xs)) h = .ok (.lst xs.reverse) h := rfl
/-- adding lists, tuples -/
theorem bin_add_tup (xs ys : List D) (h : Hh) (hl : xs.length + ys.length ≤ line) : binK .add (.d (.tup xs)) (.d (.tup ys)) h = .ok (.d (.tup (xs ++ ys))) h := by
  unfold binK binOp; simp only [hl, if_true]; rfl
theorem bin_add_lst (xs ys : List D) (h : Hh) (hl : xs.length + ys.length ≤ line) : binK .add (.lst xs) (.lst ys) h = .ok (.lst (xs ++ ys)) h := by
  unfold binK binOp; simp only [RV.lis, hl, if_true]; rfl
theorem bin_add_fl (xs ys : List D) (h : Hh) (hl : xs.length + ys.length ≤ line) : binK .add (.d (.fl xs)) (.lst ys) h = .ok (.lst (xs ++ ys)) h := by
  unfold binK binOp; simp only [RV.lis, hl, if_true]; rfl
theorem bin_add_ff (xs ys : List D) (h : Hh) (hl : xs.length + ys.length ≤ line) : binK .add (.d (.fl xs)) (.d (.fl ys)) h = .ok (.lst (xs ++ ys)) h := by
  unfold binK binOp; simp only [RV.lis, hl, if_true]; rfl
theorem bin_add_lf (xs ys : List D) (h : Hh) (hl : xs.length + ys.length ≤ line) : binK .add (.lst xs) (.d (.fl ys)) h = .ok (.lst (xs ++ ys)) h := by
  unfold binK binOp; simp only [RV.lis, hl, if_true]; rfl
def addO (o : Option O) (ys : List D) (h : Hh) : R RV := match o with
  | some (.lst xs) => if xs.length + ys.length ≤ line then .ok (.lst (xs ++ ys)) h else .stuck
  | _ => .stuck
theorem bin_add_ref (n : Nat) (ys : List D) (h : Hh) : binK .add (.d (.ref n)) (.lst ys) h = addO h[n]? ys h := by
  unfold binK binOp addO
  simp only [RV.lis]
  cases h[n]? with
  | none => rfl
  | some o =>
    cases o with
    | dct _ => rfl
    | lst xs =>
      by_cases hl : xs.length + ys.length ≤ line
      · simp only [hl, if_true]; rfl
      · simp only [hl, if_false]; rfl
theorem addO_lst (xs ys : List D) (h : Hh) (hl : xs.length + ys.length ≤ line) : addO (some (.lst xs)) ys h = .ok (.lst (xs ++ ys)) h := by unfold addO; simp only [hl, if_true]
theorem bin_mul_lst (xs : List D) (k : Int) (h : Hh) (h0 : 0 ≤ k) (hk : k ≤ 1000000) (hl : xs.length * k.toNat ≤ line) : binK .mul (.lst xs) (.d (.int k)) h = .ok (.lst (List.replicate k.toNat xs).flatten) h := by
  have : 0 ≤ k ∧ k < 2 ^ 63 ∧ xs.length * k.toNat ≤ line := ⟨h0, by omega, hl⟩
  unfold binK binOp; simp only [RV.lis, this, if_true]; rfl
/-! ### calls -/
theorem call_t {tb : Tb} {n : Nat} (f : Nat) (xs : List D) (h : Hh) : callOp (runB tb n) true f xs h = run tb n f xs h := rfl
/-- a pure call, whatever the heap -/
theorem Pc.eq {tb : Tb} {n f : Nat} {xs : List D} {rv : RV} (e : Pc tb n f xs rv) (h : Hh) : callOp (runB tb n) false f xs h = .ok rv h := e h
/-- a call over the heap that leaves it -/
def Rn (tb : Tb) (n f : Nat) (xs : List D) (h : Hh) (rv : RV) (h' : Hh) : Prop := run tb n f xs h = .ok rv h'
end Cw
end

section
set_option Elab.async false
set_option linter.all false
set_option maxRecDepth 100000
set_option maxHeartbeats 4000000
/-! Cw32: the evaluator by recursors, which the kernel runs faster. -/
namespace Cw
open PySem PySem.Spec PyProof.Rows L2
/-! ### operators by their kinds -/
noncomputable def sgF (σ : Sg) : Nat → Option (Option D) := List.rec (motive := fun _ => Nat → Option (Option D)) (fun _ => none) (fun x _ ih i => Nat.rec (motive := fun _ => Option (Option D)) (some x) (fun k _ => ih k) i) σ
theorem sgF_eq : ∀ (σ : Sg) (i : Nat), sgF σ i = σ[i]?
  | [], _ => rfl
  | _ :: _, 0 => rfl
  | _ :: σ, i + 1 => sgF_eq σ i
def addF (x y : RV) (h : Hh) : R RV := match x, y with
  | .d (.int i), .d (.int j) => .ok (.d (.int (i + j))) h
  | x, y => binK .add x y h
def subF (x y : RV) (h : Hh) : R RV := match x, y with
  | .d (.int i), .d (.int j) => .ok (.d (.int (i - j))) h
  | x, y => binK .sub x y h
def binF (o : Bop) (x y : RV) (h : Hh) : R RV := match o with
  | .add => addF x y h
  | .sub => subF x y h
  | o => binK o x y h
theorem addF_eq (x y : RV) (h : Hh) : addF x y h = binK .add x y h := by
  unfold addF; split <;> rfl
theorem subF_eq (x y : RV) (h : Hh) : subF x y h = binK .sub x y h := by
  unfold subF; split <;> rfl
theorem binF_eq (o : Bop) : binF o = binK o := by
  funext x y h
  cases o <;> first | exact addF_eq x y h | exact subF_eq x y h | rfl
def ltF (x y : RV) (f : Int → Int → Bool) (o : Cop) (h : Hh) : Option Bool := match x, y with
  | .d (.int i), .d (.int j) => some (f i j)
  | x, y => cmpOp o x y h
def eqF (x y : RV) (n : Bool) (h : Hh) : Option Bool := match x, y with
  | .d (.int i), .d (.int j) => some (if n then !decide (i = j) else decide (i = j))
  | .d (.bl i), .d (.bl j) => some (if n then !decide (i = j) else decide (i = j))
  | x, y => cmpOp (if n then .ne else .eq) x y h
def cmoF (o : Cop) (x y : RV) (h : Hh) : Option Bool := match o with
  | .lt => ltF x y (fun i j => decide (i < j)) .lt h
  | .le => ltF x y (fun i j => decide (i ≤ j)) .le h
  | .gt => ltF x y (fun i j => decide (j < i)) .gt h
  | .ge => ltF x y (fun i j => decide (j ≤ i)) .ge h
  | .eq => eqF x y false h
  | .ne => eqF x y true h
  | o => cmpOp o x y h
theorem ltF_eq (x y : RV) (f : Int → Int → Bool) (o : Cop) (h : Hh) (e : ∀ i j, cmpOp o (.d (.int i)) (.d (.int j)) h = some (f i j)) : ltF x y f o h = cmpOp o x y h := by
  unfold ltF; split
  · exact (e _ _).symm
  · rfl
theorem eqF_eq (x y : RV) (n : Bool) (h : Hh) : eqF x y n h = cmpOp (if n then .ne else .eq) x y h := by
  have e : ∀ i : Int, (RV.d (.int i)).py h = some (PyData.int i) := fun i => rfl
  have e2 : ∀ i : Bool, (RV.d (.bl i)).py h = some (PyData.bool i) := fun i => rfl
  unfold eqF; split
  · rename_i i j
    cases n
    · show some (decide (i = j)) = cmpOp .eq (.d (.int i)) (.d (.int j)) h
      unfold cmpOp; simp only [e, int_shaped, eqv_int, Bool.and_self, if_true]
    · show some (!decide (i = j)) = cmpOp .ne (.d (.int i)) (.d (.int j)) h
      unfold cmpOp; simp only [e, int_shaped, eqv_int, Bool.and_self, if_true]
  · rename_i i j
    cases n
    · show some (decide (i = j)) = cmpOp .eq (.d (.bl i)) (.d (.bl j)) h
      unfold cmpOp; simp only [e2, bl_shaped, eqv_bl, Bool.and_self, if_true]
    · show some (!decide (i = j)) = cmpOp .ne (.d (.bl i)) (.d (.bl j)) h
      unfold cmpOp; simp only [e2, bl_shaped, eqv_bl, Bool.and_self, if_true]
  · rfl
theorem cmoF_eq (o : Cop) (x y : RV) (h : Hh) : cmoF o x y h = cmpOp o x y h := by
  cases o
  · exact ltF_eq x y _ _ h fun _ _ => rfl
  · exact ltF_eq x y _ _ h fun _ _ => rfl
  · exact ltF_eq x y _ _ h fun _ _ => rfl
  · exact ltF_eq x y _ _ h fun _ _ => rfl
  · exact eqF_eq x y false h
  · exact eqF_eq x y true h
  all_goals rfl
def cmpF (o : Cop) (x y : RV) (h : Hh) : R RV := R.ofO ((cmoF o x y h).map fun b => .d (.bl b)) h
theorem cmpF_eq (o : Cop) : cmpF o = cmpK o := by
  funext x y h; unfold cmpF cmpK; rw [cmoF_eq]
theorem cmoF_eq' : cmoF = cmpOp := by funext o x y h; exact cmoF_eq o x y h
def biF (b : Bi) (xs : List RV) (h : Hh) : R RV := biK b xs h
theorem biF_eq : biF = biK := rfl
/-! ### reprs compared -/
def rcB (n : Bool) (p : D) (y : RV) (h : Hh) : R RV := match y.pd h with
  | none => .stuck
  | some q => if D.beqA p q then .ok (.d (.bl (!n))) h else .stuck
def rcA (n : Bool) (o : Option D) (e : Hh → R RV) (h : Hh) : R RV := match o with
  | none => .stuck
  | some p => if rpOk p then (e h).bind (rcB n p) else .stuck
def cRc (cf : CF) (n : Bool) (b : I) (σ : Sg) (x : RV) (h : Hh) : R RV := rcA n (x.pd h) (ev cf b σ) h
theorem ev_rcmp {cf : CF} {σ : Sg} {h : Hh} (n : Bool) (a b : I) : ev cf (.rcmp n a b) σ h = (ev cf a σ h).bind (cRc cf n b σ) := by
  conv => lhs; unfold ev
  rfl
/-! ### walks -/
def turnF (t : I) (c e : Sg → Hh → R RV) (s : Src) (σ : Sg) (x : D) (ih : Nat → Hh → R (List D)) (i : Nat) (h : Hh) : R (List D) := match s.cur h i x with
  | none => .stuck
  | some x => match putT t x σ with
    | none => .stuck
    | some σ1 => (c σ1 h).noX.bind fun b h1 => match b with
      | .d (.bl true) => (e σ1 h1).noX.bind fun y h2 => match y.toD with
        | none => .stuck
        | some y => (ih (i + 1) h2).bind fun l h3 => .ok (y :: l) h3
      | .d (.bl false) => ih (i + 1) h1
      | _ => .stuck
noncomputable def turnsF (t : I) (c e : Sg → Hh → R RV) (s : Src) (σ : Sg) (xs : List D) : Nat → Hh → R (List D) := List.rec (motive := fun _ => Nat → Hh → R (List D)) (fun i h => if s.fin h i then .ok [] h else .stuck) (fun x _ ih => turnF t c e s σ x ih) xs
theorem turnsF_eq (t : I) (c e : Sg → Hh → R RV) (s : Src) (σ : Sg) : ∀ xs : List D, turnsF t c e s σ xs = turns t c e s σ xs
  | [] => rfl
  | x :: r => by
    funext i h
    have ih := turnsF_eq t c e s σ r
    show turnF t c e s σ x (turnsF t c e s σ r) i h = _
    rw [ih]; conv => rhs; unfold turns
    rfl
def stepF (b : Sg → Hh → RF) (ih : Sg → Hh → RF) (σ : Sg) (h : Hh) : RF := match b σ h with
  | .ok (.nx σ) h => ih σ h
  | .ok (.ct σ) h => ih σ h
  | .ok (.bk σ) h => .ok (.nx σ) h
  | .ok (.rt v) h => .ok (.rt v) h
  | .exc x σ h => .exc x σ h
  | .stuck => .stuck
noncomputable def forF (t : I) (b : Sg → Hh → RF) (s : Src) (xs : List D) : Nat → Sg → Hh → RF := List.rec (motive := fun _ => Nat → Sg → Hh → RF) (fun i σ h => if s.fin h i then .ok (.nx σ) h else .stuck) (fun x _ ih i σ h => match s.cur h i x with
  | none => .stuck
  | some x => match putT t x σ with
    | none => .stuck
    | some σ => stepF b (ih (i + 1)) σ h) xs
theorem forF_eq (t : I) (b : Sg → Hh → RF) (s : Src) : ∀ xs : List D, forF t b s xs = forL t b s xs
  | [] => rfl
  | x :: r => by
    funext i σ h
    have ih := forF_eq t b s r
    show (match s.cur h i x with
      | none => RF.stuck
      | some x => match putT t x σ with
        | none => .stuck
        | some σ => stepF b (forF t b s r (i + 1)) σ h) = _
    rw [ih]; conv => rhs; unfold forL
    rfl
noncomputable def whF (c : Sg → Hh → R RV) (b : Sg → Hh → RF) (n : Nat) : Sg → Hh → RF := Nat.rec (motive := fun _ => Sg → Hh → RF) (fun _ _ => .stuck) (fun _ ih σ h => RF.of (c σ h) σ fun x h => iteF x (stepF b ih σ) (nxK σ) h) n
theorem whF_eq (c : Sg → Hh → R RV) (b : Sg → Hh → RF) : ∀ n, whF c b n = whL c b n
  | 0 => rfl
  | n + 1 => by
    funext σ h
    have ih := whF_eq c b n
    show RF.of (c σ h) σ (fun x h => iteF x (stepF b (whF c b n) σ) (nxK σ) h) = _
    rw [ih]; conv => rhs; unfold whL
    rfl
/-! ### expressions -/
structure EI where
  e : Sg → Hh → R RV
  i : Sg → Hh → R Src
structure EL where
  s : Sg → Hh → R (List D)
  a : Sg → Hh → R RV
  o : Sg → Hh → R RV
  r : Sg → Hh → R (List RV)
def noE : Sg → Hh → R RV := fun _ _ => .stuck
def noI : Sg → Hh → R Src := fun _ _ => .stuck
noncomputable def k_v (cf : CF) (i : Nat) : EI := ⟨fun σ h => getV (sgF σ i) h, noI⟩
noncomputable def k_c (cf : CF) (d : D) : EI := ⟨fun σ h => .ok (.d d) h, noI⟩
noncomputable def k_g (cf : CF) (x : Str) (d : D) : EI := ⟨fun σ h => .ok (.d d) h, noI⟩
noncomputable def k_no (cf : CF)  : EI := ⟨fun σ h => .ok (.d .non) h, noI⟩
noncomputable def k_tup (cf : CF) (es_ : List I) (es : EL) : EI := ⟨fun σ h => (es.s σ h).bind tupK, noI⟩
noncomputable def k_lst (cf : CF) (es_ : List I) (es : EL) : EI := ⟨fun σ h => (es.s σ h).bind lstK, noI⟩
noncomputable def k_dct (cf : CF) (es_ : List I) (es : EL) : EI := ⟨fun σ h => (es.s σ h).bind dctK, noI⟩
noncomputable def k_lrg (cf : CF) (t : Bool) (es_ : List I) (es : EL) : EI := ⟨fun σ h => (es.s σ h).bind (lrgK t), noI⟩
noncomputable def k_rcmp (cf : CF) (n : Bool) (a_ : I) (b_ : I) (a : EI) (b : EI) : EI := ⟨fun σ h => (a.e σ h).bind fun x h => rcA n (x.pd h) (b.e σ) h, noI⟩
noncomputable def k_bin (cf : CF) (o : Bop) (a_ : I) (b_ : I) (a : EI) (b : EI) : EI := ⟨fun σ h => (a.e σ h).bind fun x h => (b.e σ h).bind (binF o x), noI⟩
noncomputable def k_neg (cf : CF) (a_ : I) (a : EI) : EI := ⟨fun σ h => (a.e σ h).bind negK, noI⟩
noncomputable def k_nt (cf : CF) (a_ : I) (a : EI) : EI := ⟨fun σ h => (a.e σ h).bind ntK, noI⟩
noncomputable def k_and (cf : CF) (es_ : List I) (es : EL) : EI := ⟨fun σ h => es.a σ h, noI⟩
noncomputable def k_or (cf : CF) (es_ : List I) (es : EL) : EI := ⟨fun σ h => es.o σ h, noI⟩
noncomputable def k_cmp (cf : CF) (o : Cop) (a_ : I) (b_ : I) (a : EI) (b : EI) : EI := ⟨fun σ h => (a.e σ h).bind fun x h => (b.e σ h).bind (cmpF o x), noI⟩
noncomputable def k_chn (cf : CF) (o : Cop) (p : Cop) (a_ : I) (b_ : I) (c_ : I) (a : EI) (b : EI) (c : EI) : EI := ⟨fun σ h => (a.e σ h).bind fun x h => (b.e σ h).bind fun y h => chnK (cmoF o x y h) (fun h => (c.e σ h).bind (cmpF p y)) h, noI⟩
noncomputable def k_chn3 (cf : CF) (o : Cop) (p : Cop) (q : Cop) (a_ : I) (b_ : I) (c_ : I) (d_ : I) (a : EI) (b : EI) (c : EI) (d : EI) : EI := ⟨fun σ h => (a.e σ h).bind fun x h => (b.e σ h).bind fun y h => chnK (cmoF o x y h) (fun h => (c.e σ h).bind fun z h => chnK (cmoF p y z h) (fun h => (d.e σ h).bind (cmpF q z)) h) h, noI⟩
noncomputable def k_ife (cf : CF) (c_ : I) (a_ : I) (b_ : I) (c : EI) (a : EI) (b : EI) : EI := ⟨fun σ h => (c.e σ h).bind fun x h => iteK x (a.e σ) (b.e σ) h, noI⟩
noncomputable def k_ix (cf : CF) (a_ : I) (i_ : I) (a : EI) (i : EI) : EI := ⟨fun σ h => (a.e σ h).bind fun x h => (i.e σ h).bind (ixK x), noI⟩
noncomputable def k_sl (cf : CF) (a_ : I) (lo_ : I) (hi_ : I) (a : EI) (lo : EI) (hi : EI) : EI := ⟨fun σ h => (a.e σ h).bind fun x h => (lo.e σ h).bind fun l h => bndK (bound lo_.isNo l) (fun l h => (hi.e σ h).bind fun r h => bndK (bound hi_.isNo r) (fun r h => slK x l r h) h) h, noI⟩
noncomputable def k_rev (cf : CF) (a_ : I) (a : EI) : EI := ⟨fun σ h => (a.e σ h).bind revK, noI⟩
noncomputable def k_call (cf : CF) (m : Bool) (f : Nat) (x : Str) (es_ : List I) (ks : List Str) (es2_ : List I) (es : EL) (es2 : EL) : EI := ⟨fun σ h => (es.s σ h).bind fun ds h => (es2.s σ h).bind fun zs h => callOp cf m f (ds ++ zs) h, noI⟩
noncomputable def k_bi (cf : CF) (b : Bi) (es_ : List I) (es : EL) : EI := ⟨fun σ h => (es.r σ h).bind (biF b), noI⟩
noncomputable def k_isi (cf : CF) (a_ : I) (ts : List Ty) (a : EI) : EI := ⟨fun σ h => (a.e σ h).bind (isK ts), noI⟩
noncomputable def k_mth (cf : CF) (m : Mt) (o_ : I) (es_ : List I) (o : EI) (es : EL) : EI := ⟨fun σ h => (o.e σ h).bind fun x h => mthA (lstAt x h) (es.s σ) (mthK m x) h, noI⟩
noncomputable def k_mut (cf : CF) (e_ : I) (e : EI) : EI := ⟨fun σ h => (e.e σ h).bind mutK, noI⟩
noncomputable def k_lc (cf : CF) (e_ : I) (t_ : I) (i_ : I) (c_ : I) (w : List (Str × Nat)) (e : EI) (t : EI) (i : EI) (c : EI) : EI := ⟨fun σ h => (i.i σ h).bind fun s h => (turnsF t_ c.e e.e s (wipeD σ w) (s.items h) 0 h).bind lstK, noI⟩
noncomputable def k_lc2 (cf : CF) (e_ : I) (t_ : I) (i_ : I) (t2_ : I) (es2_ : List I) (w : List (Str × Nat)) (w2 : List (Str × Nat)) (e : EI) (t : EI) (i : EI) (t2 : EI) (es2 : EL) : EI := ⟨fun σ h => (i.i σ h).bind fun s h => fewR (s.items h).length ((outer t_ (fun σ h => (es2.s σ h).bind fun ds h => inR t2_ e.e (wipeD σ w2) ds h) s (wipeD σ w) (s.items h) 0 h).bind lstK), noI⟩
noncomputable def k_it (cf : CF) (e_ : I) (e : EI) : EI := ⟨noE, fun σ h => (e.e σ h).bind srcK⟩
noncomputable def k_rng (cf : CF) (es_ : List I) (es : EL) : EI := ⟨noE, fun σ h => (es.s σ h).bind rngK⟩
noncomputable def k_enum (cf : CF) (e_ : I) (e : EI) : EI := ⟨noE, fun σ h => (e.e σ h).bind enumK⟩
noncomputable def k_zip (cf : CF) (a_ : I) (b_ : I) (a : EI) (b : EI) : EI := ⟨noE, fun σ h => (a.e σ h).bind fun x h => (b.e σ h).bind (zipK x)⟩
def k_nil : EL := ⟨fun _ h => .ok [] h, noE, noE, fun _ h => .ok [] h⟩
def k_cons (_ : I) (r : List I) (x : EI) (l : EL) : EL := ⟨fun σ h => (x.e σ h).bind fun y h => toDK y (fun d h => (l.s σ h).bind (consK d)) h,
  match r with
  | [] => x.e
  | _ :: _ => fun σ h => (x.e σ h).bind fun y h => iteK y (l.a σ) (okB false) h,
  match r with
  | [] => x.e
  | _ :: _ => fun σ h => (x.e σ h).bind fun y h => iteK y (okB true) (l.o σ) h,
  fun σ h => (x.e σ h).bind fun y h => (l.r σ h).bind (consR y)⟩
noncomputable def kI (cf : CF) (e : I) : EI := I.rec (motive_1 := fun _ => EI) (motive_2 := fun _ => EL) (k_v cf) (k_c cf) (k_g cf) (k_no cf) (k_tup cf) (k_lst cf) (k_dct cf) (k_lrg cf) (k_rcmp cf) (k_bin cf) (k_neg cf) (k_nt cf) (k_and cf) (k_or cf) (k_cmp cf) (k_chn cf) (k_chn3 cf) (k_ife cf) (k_ix cf) (k_sl cf) (k_rev cf) (k_call cf) (k_bi cf) (k_isi cf) (k_mth cf) (k_mut cf) (k_lc cf) (k_lc2 cf) (k_it cf) (k_rng cf) (k_enum cf) (k_zip cf) k_nil k_cons e
noncomputable def kL (cf : CF) (e : List I) : EL := I.rec_1 (motive_1 := fun _ => EI) (motive_2 := fun _ => EL) (k_v cf) (k_c cf) (k_g cf) (k_no cf) (k_tup cf) (k_lst cf) (k_dct cf) (k_lrg cf) (k_rcmp cf) (k_bin cf) (k_neg cf) (k_nt cf) (k_and cf) (k_or cf) (k_cmp cf) (k_chn cf) (k_chn3 cf) (k_ife cf) (k_ix cf) (k_sl cf) (k_rev cf) (k_call cf) (k_bi cf) (k_isi cf) (k_mth cf) (k_mut cf) (k_lc cf) (k_lc2 cf) (k_it cf) (k_rng cf) (k_enum cf) (k_zip cf) k_nil k_cons e
section
variable (cf : CF)
mutual
theorem kI_e : ∀ e : I, (kI cf e).e = ev cf e
  | .v i => by
    funext σ h
    rw [ev_v]
    show (k_v cf i).e σ h = _
    simp only [k_v, binF_eq, cmpF_eq, cmoF_eq', biF_eq, turnsF_eq, sgF_eq]
    try rfl
  | .c d => by
    funext σ h
    rw [ev_c]
    show (k_c cf d).e σ h = _
    simp only [k_c, binF_eq, cmpF_eq, cmoF_eq', biF_eq, turnsF_eq, sgF_eq]
    try rfl
  | .g x d => by
    funext σ h
    rw [ev_g]
    show (k_g cf x d).e σ h = _
    simp only [k_g, binF_eq, cmpF_eq, cmoF_eq', biF_eq, turnsF_eq, sgF_eq]
    try rfl
  | .no => by
    funext σ h
    rw [ev_no]
    show (k_no cf ).e σ h = _
    simp only [k_no, binF_eq, cmpF_eq, cmoF_eq', biF_eq, turnsF_eq, sgF_eq]
    try rfl
  | .tup es => by
    have h0 := kL_s es
    funext σ h
    rw [ev_tup]
    show (k_tup cf es (kL cf es)).e σ h = _
    simp only [k_tup, h0, binF_eq, cmpF_eq, cmoF_eq', biF_eq, turnsF_eq, sgF_eq]
    try rfl
  | .lst es => by
    have h0 := kL_s es
    funext σ h
    rw [ev_lst]
    show (k_lst cf es (kL cf es)).e σ h = _
    simp only [k_lst, h0, binF_eq, cmpF_eq, cmoF_eq', biF_eq, turnsF_eq, sgF_eq]
    try rfl
  | .dct es => by
    have h0 := kL_s es
    funext σ h
    rw [ev_dct]
    show (k_dct cf es (kL cf es)).e σ h = _
    simp only [k_dct, h0, binF_eq, cmpF_eq, cmoF_eq', biF_eq, turnsF_eq, sgF_eq]
    try rfl
  | .lrg t es => by
    have h0 := kL_s es
    funext σ h
    rw [ev_lrg]
    show (k_lrg cf t es (kL cf es)).e σ h = _
    simp only [k_lrg, h0, binF_eq, cmpF_eq, cmoF_eq', biF_eq, turnsF_eq, sgF_eq]
    try rfl
  | .rcmp n a b => by
    have h0 := kI_e a
    have h1 := kI_e b
    funext σ h
    rw [ev_rcmp]
    show (k_rcmp cf n a b (kI cf a) (kI cf b)).e σ h = _
    simp only [k_rcmp, h0, h1, binF_eq, cmpF_eq, cmoF_eq', biF_eq, turnsF_eq, sgF_eq]
    try rfl
  | .bin o a b => by
    have h0 := kI_e a
    have h1 := kI_e b
    funext σ h
    rw [ev_bin]
    show (k_bin cf o a b (kI cf a) (kI cf b)).e σ h = _
    simp only [k_bin, h0, h1, binF_eq, cmpF_eq, cmoF_eq', biF_eq, turnsF_eq, sgF_eq]
    try rfl
  | .neg a => by
    have h0 := kI_e a
    funext σ h
    rw [ev_neg]
    show (k_neg cf a (kI cf a)).e σ h = _
    simp only [k_neg, h0, binF_eq, cmpF_eq, cmoF_eq', biF_eq, turnsF_eq, sgF_eq]
    try rfl
  | .nt a => by
    have h0 := kI_e a
    funext σ h
    rw [ev_nt]
    show (k_nt cf a (kI cf a)).e σ h = _
    simp only [k_nt, h0, binF_eq, cmpF_eq, cmoF_eq', biF_eq, turnsF_eq, sgF_eq]
    try rfl
  | .and es => by
    have h0 := kL_a es
    funext σ h
    rw [ev_and]
    show (k_and cf es (kL cf es)).e σ h = _
    simp only [k_and, h0, binF_eq, cmpF_eq, cmoF_eq', biF_eq, turnsF_eq, sgF_eq]
    try rfl
  | .or es => by
    have h0 := kL_o es
    funext σ h
    rw [ev_or]
    show (k_or cf es (kL cf es)).e σ h = _
    simp only [k_or, h0, binF_eq, cmpF_eq, cmoF_eq', biF_eq, turnsF_eq, sgF_eq]
    try rfl
  | .cmp o a b => by
    have h0 := kI_e a
    have h1 := kI_e b
    funext σ h
    rw [ev_cmp]
    show (k_cmp cf o a b (kI cf a) (kI cf b)).e σ h = _
    simp only [k_cmp, h0, h1, binF_eq, cmpF_eq, cmoF_eq', biF_eq, turnsF_eq, sgF_eq]
    try rfl
  | .chn o p a b c => by
    have h0 := kI_e a
    have h1 := kI_e b
    have h2 := kI_e c
    funext σ h
    rw [ev_chn]
    show (k_chn cf o p a b c (kI cf a) (kI cf b) (kI cf c)).e σ h = _
    simp only [k_chn, h0, h1, h2, binF_eq, cmpF_eq, cmoF_eq', biF_eq, turnsF_eq, sgF_eq]
    try rfl
  | .chn3 o p q a b c d => by
    have h0 := kI_e a
    have h1 := kI_e b
    have h2 := kI_e c
    have h3 := kI_e d
    funext σ h
    rw [ev_chn3]
    show (k_chn3 cf o p q a b c d (kI cf a) (kI cf b) (kI cf c) (kI cf d)).e σ h = _
    simp only [k_chn3, h0, h1, h2, h3, binF_eq, cmpF_eq, cmoF_eq', biF_eq, turnsF_eq, sgF_eq]
    try rfl
  | .ife c a b => by
    have h0 := kI_e c
    have h1 := kI_e a
    have h2 := kI_e b
    funext σ h
    rw [ev_ife]
    show (k_ife cf c a b (kI cf c) (kI cf a) (kI cf b)).e σ h = _
    simp only [k_ife, h0, h1, h2, binF_eq, cmpF_eq, cmoF_eq', biF_eq, turnsF_eq, sgF_eq]
    try rfl
  | .ix a i => by
    have h0 := kI_e a
    have h1 := kI_e i
    funext σ h
    rw [ev_ix]
    show (k_ix cf a i (kI cf a) (kI cf i)).e σ h = _
    simp only [k_ix, h0, h1, binF_eq, cmpF_eq, cmoF_eq', biF_eq, turnsF_eq, sgF_eq]
    try rfl
  | .sl a lo hi => by
    have h0 := kI_e a
    have h1 := kI_e lo
    have h2 := kI_e hi
    funext σ h
    rw [ev_sl]
    show (k_sl cf a lo hi (kI cf a) (kI cf lo) (kI cf hi)).e σ h = _
    simp only [k_sl, h0, h1, h2, binF_eq, cmpF_eq, cmoF_eq', biF_eq, turnsF_eq, sgF_eq]
    try rfl
  | .rev a => by
    have h0 := kI_e a
    funext σ h
    rw [ev_rev]
    show (k_rev cf a (kI cf a)).e σ h = _
    simp only [k_rev, h0, binF_eq, cmpF_eq, cmoF_eq', biF_eq, turnsF_eq, sgF_eq]
    try rfl
  | .call m f x es ks es2 => by
    have h0 := kL_s es
    have h1 := kL_s es2
    funext σ h
    rw [ev_call]
    show (k_call cf m f x es ks es2 (kL cf es) (kL cf es2)).e σ h = _
    simp only [k_call, h0, h1, binF_eq, cmpF_eq, cmoF_eq', biF_eq, turnsF_eq, sgF_eq]
    try rfl
  | .bi b es => by
    have h0 := kL_r es
    funext σ h
    rw [ev_bi]
    show (k_bi cf b es (kL cf es)).e σ h = _
    simp only [k_bi, h0, binF_eq, cmpF_eq, cmoF_eq', biF_eq, turnsF_eq, sgF_eq]
    try rfl
  | .isi a ts => by
    have h0 := kI_e a
    funext σ h
    rw [ev_isi]
    show (k_isi cf a ts (kI cf a)).e σ h = _
    simp only [k_isi, h0, binF_eq, cmpF_eq, cmoF_eq', biF_eq, turnsF_eq, sgF_eq]
    try rfl
  | .mth m o es => by
    have h0 := kI_e o
    have h1 := kL_s es
    funext σ h
    rw [ev_mth]
    show (k_mth cf m o es (kI cf o) (kL cf es)).e σ h = _
    simp only [k_mth, h0, h1, binF_eq, cmpF_eq, cmoF_eq', biF_eq, turnsF_eq, sgF_eq]
    try rfl
  | .mut e => by
    have h0 := kI_e e
    funext σ h
    rw [ev_mut]
    show (k_mut cf e (kI cf e)).e σ h = _
    simp only [k_mut, h0, binF_eq, cmpF_eq, cmoF_eq', biF_eq, turnsF_eq, sgF_eq]
    try rfl
  | .lc e t i c w => by
    have h0 := kI_e e
    have h1 := kI_i i
    have h2 := kI_e c
    funext σ h
    rw [ev_lc]
    show (k_lc cf e t i c w (kI cf e) (kI cf t) (kI cf i) (kI cf c)).e σ h = _
    simp only [k_lc, h0, h1, h2, binF_eq, cmpF_eq, cmoF_eq', biF_eq, turnsF_eq, sgF_eq]
    try rfl
  | .lc2 e t i t2 es2 w w2 => by
    have h0 := kI_e e
    have h1 := kI_i i
    have h2 := kL_s es2
    funext σ h
    rw [ev_lc2]
    show (k_lc2 cf e t i t2 es2 w w2 (kI cf e) (kI cf t) (kI cf i) (kI cf t2) (kL cf es2)).e σ h = _
    simp only [k_lc2, h0, h1, h2, binF_eq, cmpF_eq, cmoF_eq', biF_eq, turnsF_eq, sgF_eq]
    try rfl
  | .it e => by
    funext σ h
    conv => rhs; unfold ev
    rfl
  | .rng es => by
    funext σ h
    conv => rhs; unfold ev
    rfl
  | .enum e => by
    funext σ h
    conv => rhs; unfold ev
    rfl
  | .zip a b => by
    funext σ h
    conv => rhs; unfold ev
    rfl
theorem kI_i : ∀ e : I, (kI cf e).i = evi cf e
  | .v i => by
    funext σ h
    conv => rhs; unfold evi
    rfl
  | .c d => by
    funext σ h
    conv => rhs; unfold evi
    rfl
  | .g x d => by
    funext σ h
    conv => rhs; unfold evi
    rfl
  | .no => by
    funext σ h
    conv => rhs; unfold evi
    rfl
  | .tup es => by
    funext σ h
    conv => rhs; unfold evi
    rfl
  | .lst es => by
    funext σ h
    conv => rhs; unfold evi
    rfl
  | .dct es => by
    funext σ h
    conv => rhs; unfold evi
    rfl
  | .lrg t es => by
    funext σ h
    conv => rhs; unfold evi
    rfl
  | .rcmp n a b => by
    funext σ h
    conv => rhs; unfold evi
    rfl
  | .bin o a b => by
    funext σ h
    conv => rhs; unfold evi
    rfl
  | .neg a => by
    funext σ h
    conv => rhs; unfold evi
    rfl
  | .nt a => by
    funext σ h
    conv => rhs; unfold evi
    rfl
  | .and es => by
    funext σ h
    conv => rhs; unfold evi
    rfl
  | .or es => by
    funext σ h
    conv => rhs; unfold evi
    rfl
  | .cmp o a b => by
    funext σ h
    conv => rhs; unfold evi
    rfl
  | .chn o p a b c => by
    funext σ h
    conv => rhs; unfold evi
    rfl
  | .chn3 o p q a b c d => by
    funext σ h
    conv => rhs; unfold evi
    rfl
  | .ife c a b => by
    funext σ h
    conv => rhs; unfold evi
    rfl
  | .ix a i => by
    funext σ h
    conv => rhs; unfold evi
    rfl
  | .sl a lo hi => by
    funext σ h
    conv => rhs; unfold evi
    rfl
  | .rev a => by
    funext σ h
    conv => rhs; unfold evi
    rfl
  | .call m f x es ks es2 => by
    funext σ h
    conv => rhs; unfold evi
    rfl
  | .bi b es => by
    funext σ h
    conv => rhs; unfold evi
    rfl
  | .isi a ts => by
    funext σ h
    conv => rhs; unfold evi
    rfl
  | .mth m o es => by
    funext σ h
    conv => rhs; unfold evi
    rfl
  | .mut e => by
    funext σ h
    conv => rhs; unfold evi
    rfl
  | .lc e t i c w => by
    funext σ h
    conv => rhs; unfold evi
    rfl
  | .lc2 e t i t2 es2 w w2 => by
    funext σ h
    conv => rhs; unfold evi
    rfl
  | .it e => by
    have h0 := kI_e e
    funext σ h
    rw [evi_it]
    show (k_it cf e (kI cf e)).i σ h = _
    simp only [k_it, h0]
    try rfl
  | .rng es => by
    have h0 := kL_s es
    funext σ h
    rw [evi_rng]
    show (k_rng cf es (kL cf es)).i σ h = _
    simp only [k_rng, h0]
    try rfl
  | .enum e => by
    have h0 := kI_e e
    funext σ h
    rw [evi_enum]
    show (k_enum cf e (kI cf e)).i σ h = _
    simp only [k_enum, h0]
    try rfl
  | .zip a b => by
    have h0 := kI_e a
    have h1 := kI_e b
    funext σ h
    rw [evi_zip]
    show (k_zip cf a b (kI cf a) (kI cf b)).i σ h = _
    simp only [k_zip, h0, h1]
    try rfl
theorem kL_s : ∀ es : List I, (kL cf es).s = evs cf es
  | [] => by funext σ h; rw [evs_nil]; rfl
  | e :: es => by
    have h1 := kI_e e
    have h2 := kL_s es
    funext σ h
    rw [evs_cons]
    show (k_cons e es (kI cf e) (kL cf es)).s σ h = _
    simp only [k_cons, h1, h2]
    rfl
theorem kL_r : ∀ es : List I, (kL cf es).r = evr cf es
  | [] => by funext σ h; rw [evr_nil]; rfl
  | e :: es => by
    have h1 := kI_e e
    have h2 := kL_r es
    funext σ h
    rw [evr_cons]
    show (k_cons e es (kI cf e) (kL cf es)).r σ h = _
    simp only [k_cons, h1, h2]
    rfl
theorem kL_a : ∀ es : List I, (kL cf es).a = eva cf es
  | [] => by funext σ h; conv => rhs; unfold eva
             rfl
  | [e] => by
    have h1 := kI_e e
    funext σ h
    rw [eva_one]
    show (k_cons e [] (kI cf e) (kL cf [])).a σ h = _
    simp only [k_cons, h1]
  | e :: e2 :: es => by
    have h1 := kI_e e
    have h2 := kL_a (e2 :: es)
    funext σ h
    rw [eva_cons]
    show (k_cons e (e2 :: es) (kI cf e) (kL cf (e2 :: es))).a σ h = _
    simp only [k_cons, h1, h2]
    rfl
theorem kL_o : ∀ es : List I, (kL cf es).o = evo cf es
  | [] => by funext σ h; conv => rhs; unfold evo
             rfl
  | [e] => by
    have h1 := kI_e e
    funext σ h
    rw [evo_one]
    show (k_cons e [] (kI cf e) (kL cf [])).o σ h = _
    simp only [k_cons, h1]
  | e :: e2 :: es => by
    have h1 := kI_e e
    have h2 := kL_o (e2 :: es)
    funext σ h
    rw [evo_cons]
    show (k_cons e (e2 :: es) (kI cf e) (kL cf (e2 :: es))).o σ h = _
    simp only [k_cons, h1, h2]
    rfl
end
end
/-! ### statements -/
section
variable (cf : CF)
noncomputable def tgtF (t : I) (d : D) (σ : Sg) (h : Hh) : R Sg := match t with
  | .v i => .ok (σ.set i (some d)) h
  | .ix o i => ((kI cf o).e σ h).bind fun x h => ((kI cf i).e σ h).bind (tixK d σ x)
  | _ => .stuck
theorem tgtF_eq : tgtF cf = tgt cf := by
  funext t d σ h
  cases t <;> first | rfl | (rw [tgt_ix]; unfold tgtF; simp only [kI_e]; rfl)
noncomputable def tgtsF : List I → List D → Sg → Hh → R Sg
  | [], [], σ, h => .ok σ h
  | t :: ts, d :: ds, σ, h => (tgtF cf t d σ h).bind (tgtsF ts ds)
  | _, _, _, _ => .stuck
theorem tgtsF_eq : ∀ (ts : List I) (ds : List D), tgtsF cf ts ds = tgts cf ts ds
  | [], [] => rfl
  | t :: ts, d :: ds => by
    funext σ h
    rw [tgts_cons]
    show (tgtF cf t d σ h).bind (tgtsF cf ts ds) = _
    rw [tgtF_eq, tgtsF_eq ts ds]
  | [], _ :: _ => rfl
  | _ :: _, [] => rfl
noncomputable def asgF (t : I) (d : D) (σ : Sg) (h : Hh) : R Sg := match t, d with
  | .tup ts, .tup ds => tgtsF cf ts ds σ h
  | .v i, d => .ok (σ.set i (some d)) h
  | .ix o i, d => tgtF cf (.ix o i) d σ h
  | _, _ => .stuck
theorem asgF_eq : asgF cf = asg cf := by
  funext t d σ h
  cases t with
  | ix o i =>
    have e : asgF cf (.ix o i) d σ h = tgtF cf (.ix o i) d σ h := by cases d <;> rfl
    rw [e, tgtF_eq, tgt_ix, asg_ix]
  | tup ts =>
    cases d with
    | tup ds =>
      show tgtsF cf ts ds σ h = _
      rw [tgtsF_eq, asg_tup]
    | _ => rfl
  | v i => cases d <;> rfl
  | _ => cases d <;> rfl
noncomputable def s_set (t e : I) : Sg → Hh → RF := fun σ h => RF.of ((kI cf e).e σ h) σ fun x h => toDF x (fun d h => RF.of (asgF cf t d σ h).noX σ nxK) h
noncomputable def s_aug (i : Nat) (o : Bop) (e : I) : Sg → Hh → RF := fun σ h => augA (sgF σ i) (fun x h => RF.of ((kI cf e).e σ h) σ (augK i o x σ)) h
noncomputable def s_exp (e : I) : Sg → Hh → RF := fun σ h => RF.of ((kI cf e).e σ h) σ (dropK σ)
noncomputable def s_ret (e : I) : Sg → Hh → RF := fun σ h => RF.of ((kI cf e).e σ h) σ rtK
def s_ret0 : Sg → Hh → RF := fun _ h => .ok (.rt (.d .non)) h
noncomputable def s_ifs (c : I) (_ _ : List S) (a b : Sg → Hh → RF) : Sg → Hh → RF := fun σ h => RF.of ((kI cf c).e σ h) σ fun x h => iteF x (a σ) (b σ) h
noncomputable def s_fr (t i : I) (_ : List S) (b : Sg → Hh → RF) : Sg → Hh → RF := fun σ h => RF.of ((kI cf i).i σ h) σ fun s h => forF t b s (s.items h) 0 σ h
noncomputable def s_wh (k : Nat) (c : I) (_ : List S) (b : Sg → Hh → RF) : Sg → Hh → RF := fun σ h => whF (kI cf c).e b k σ h
def s_pass : Sg → Hh → RF := fun σ h => .ok (.nx σ) h
def s_brk : Sg → Hh → RF := fun σ h => .ok (.bk σ) h
def s_cnt : Sg → Hh → RF := fun σ h => .ok (.ct σ) h
def s_nev : Sg → Hh → RF := fun _ _ => .stuck
noncomputable def s_zret (i : Nat) (a b : I) (q : Bi) (e t c : I) (w : List (Str × Nat)) : Sg → Hh → RF := fun σ h => if i < σ.length then RF.of ((kI cf (.zip a b)).i σ h) σ fun s h => RF.of ((turnsF t (kI cf c).e (kI cf e).e s (wipeD (σ.set i none) w) (s.items h) 0 h).bind fun l h => R.ofO (biOp q [.lst l] h) h) (σ.set i none) fun x h => .ok (.rt x) h else .stuck
noncomputable def s_zfr (i : Nat) (a b t : I) (_ : List S) (body : Sg → Hh → RF) : Sg → Hh → RF := fun σ h => if i < σ.length then RF.of ((kI cf (.zip a b)).i σ h) σ fun s h => forF t body s (s.items h) 0 (σ.set i none) h else .stuck
noncomputable def s_rs (k : Nat) (_ : Str) (es : List I) : Sg → Hh → RF := fun σ h => RF.of ((kL cf es).s σ h) σ (excK k σ)
def s_tr (_ : List S) (ks no : List Nat) (_ : Str) (i : Option Nat) (hd : Hd) (b : Sg → Hh → RF) : Sg → Hh → RF := fun σ h => catchF ks no i hd (b σ h)
def s_nil : Sg → Hh → RF := fun σ h => .ok (.nx σ) h
def s_cons (_ : S) (_ : List S) (a b : Sg → Hh → RF) : Sg → Hh → RF := fun σ h => seqK (a σ h) b
noncomputable def kS (s : S) : Sg → Hh → RF := S.rec (motive_1 := fun _ => Sg → Hh → RF) (motive_2 := fun _ => Sg → Hh → RF) (s_set cf) (s_aug cf) (s_exp cf) (s_ret cf) s_ret0 (s_ifs cf) (s_fr cf) (s_wh cf) s_pass s_brk s_cnt s_nev (s_zret cf) (s_zfr cf) (s_rs cf) s_tr s_nil s_cons s
noncomputable def kSs (s : List S) : Sg → Hh → RF := S.rec_1 (motive_1 := fun _ => Sg → Hh → RF) (motive_2 := fun _ => Sg → Hh → RF) (s_set cf) (s_aug cf) (s_exp cf) (s_ret cf) s_ret0 (s_ifs cf) (s_fr cf) (s_wh cf) s_pass s_brk s_cnt s_nev (s_zret cf) (s_zfr cf) (s_rs cf) s_tr s_nil s_cons s
mutual
theorem kS_eq : ∀ s : S, kS cf s = ex cf s
  | .set t e => by
    funext σ h
    rw [ex_set]
    show s_set cf t e σ h = _
    unfold s_set
    rw [kI_e, asgF_eq]; rfl
  | .aug i o e => by
    funext σ h
    rw [ex_aug]
    show s_aug cf i o e σ h = _
    unfold s_aug
    rw [kI_e, sgF_eq]; rfl
  | .exp e => by
    funext σ h
    rw [ex_exp]
    show s_exp cf e σ h = _
    unfold s_exp
    rw [kI_e]
  | .ret e => by
    funext σ h
    rw [ex_ret]
    show s_ret cf e σ h = _
    unfold s_ret
    rw [kI_e]
  | .ret0 => by funext σ h; rw [ex_ret0]; rfl
  | .ifs c a b => by
    have h1 := kSs_eq a
    have h2 := kSs_eq b
    funext σ h
    rw [ex_ifs]
    show s_ifs cf c a b (kSs cf a) (kSs cf b) σ h = _
    unfold s_ifs
    rw [kI_e, h1, h2]; rfl
  | .fr t i b => by
    have h1 := kSs_eq b
    funext σ h
    rw [ex_fr]
    show s_fr cf t i b (kSs cf b) σ h = _
    unfold s_fr
    rw [kI_i, h1]; simp only [forF_eq]; rfl
  | .wh k c b => by
    have h1 := kSs_eq b
    funext σ h
    rw [ex_wh]
    show s_wh cf k c b (kSs cf b) σ h = _
    unfold s_wh
    rw [kI_e, h1, whF_eq]
  | .pass => by funext σ h; rw [ex_pass]; rfl
  | .brk => by funext σ h; rw [ex_brk]; rfl
  | .cnt => by funext σ h; rw [ex_cnt]; rfl
  | .nev => by funext σ h; conv => rhs; unfold ex
               rfl
  | .zret i a b q e t c w => by
    funext σ h
    show s_zret cf i a b q e t c w σ h = _
    unfold s_zret
    rw [kI_i, kI_e, kI_e]
    conv => rhs; unfold ex
    simp only [turnsF_eq]
  | .zfr i a b t body => by
    have h1 := kSs_eq body
    funext σ h
    show s_zfr cf i a b t body (kSs cf body) σ h = _
    unfold s_zfr
    rw [kI_i, h1]
    conv => rhs; unfold ex
    simp only [forF_eq]
  | .rs k x es => by
    funext σ h
    rw [ex_rs]
    show s_rs cf k x es σ h = _
    unfold s_rs
    rw [kL_s]
  | .tr b ks no x i hd => by
    have h1 := kSs_eq b
    funext σ h
    rw [ex_tr]
    show s_tr b ks no x i hd (kSs cf b) σ h = _
    unfold s_tr
    rw [h1]
theorem kSs_eq : ∀ s : List S, kSs cf s = exs cf s
  | [] => by funext σ h; rw [exs_nil]; rfl
  | s :: r => by
    have h1 := kS_eq s
    have h2 := kSs_eq r
    funext σ h
    rw [exs_cons]
    show s_cons s r (kS cf s) (kSs cf r) σ h = _
    unfold s_cons
    rw [h1, h2]
end
end
noncomputable def run1F (tb : Tb) (c : CF) (f : Nat) (xs : List D) (h : Hh) : R RV := match tb f with
  | none => .stuck
  | some fn => if xs.length = fn.ps.length then runK (kSs c fn.body (xs.map some ++ List.replicate (fn.ns.length - xs.length) none) h) else .stuck
theorem run1F_eq (tb : Tb) (c : CF) (f : Nat) (xs : List D) (h : Hh) : run1F tb c f xs h = run1 tb c f xs h := by
  unfold run1F run1
  cases tb f with
  | none => rfl
  | some fn =>
    simp only [kSs_eq]
    by_cases hl : xs.length = fn.ps.length
    · rw [if_pos hl, if_pos hl]
      cases exs c fn.body (xs.map some ++ List.replicate (fn.ns.length - xs.length) none) h with
      | ok f h => cases f <;> rfl
      | _ => rfl
    · rw [if_neg hl, if_neg hl]
noncomputable def runF (tb : Tb) (n : Nat) : Nat → List D → Hh → R RV := Nat.rec (motive := fun _ => Nat → List D → Hh → R RV) (fun _ _ _ => .stuck) (fun _ ih f xs h => run1F tb (fun _ => ih) f xs h) n
theorem runF_eq (tb : Tb) : ∀ n, runF tb n = run tb n
  | 0 => rfl
  | n + 1 => by
    funext f xs h
    have ih := runF_eq tb n
    show run1F tb (fun _ => runF tb n) f xs h = _
    rw [ih, run1F_eq]; rfl
/-- a pure call, by its run -/
noncomputable def pcF (tb : Tb) (n f : Nat) (xs : List D) (rv : RV) : Bool := D.pures xs && match runF tb n f xs [] with
  | .ok r h => (match unbox r h with
    | some r => rvB r rv
    | none => false)
  | _ => false
theorem Pc.chkF {tb : Tb} {n f : Nat} {xs : List D} {rv : RV} (h : pcF tb n f xs rv = true) : Pc tb n f xs rv := by
  unfold pcF at h
  rw [runF_eq] at h
  exact Pc.chk h
/-- a pure call, by its body over a table of calls -/
noncomputable def pmF (tb : Tb) (l : Memo) (f : Nat) (xs : List D) (rv : RV) : Bool := D.pures xs && match run1F tb (memo l) f xs [] with
  | .ok r h => (match unbox r h with
    | some r => rvB r rv
    | none => false)
  | _ => false
theorem Pc.tabF {tb : Tb} {n f : Nat} {l : Memo} {xs : List D} {rv : RV} (hl : ∀ p ∈ l, Pc tb n p.1 p.2.1 p.2.2) (h : pmF tb l f xs rv = true) : Pc tb (n + 1) f xs rv := by
  unfold pmF at h
  rw [run1F_eq] at h
  exact Pc.tab hl h
end Cw
end

section
set_option Elab.async false
set_option linter.all false
set_option maxRecDepth 100000
set_option maxHeartbeats 0
namespace Cw.K34
open PySem PySem.Spec PyProof.Rows L2 Cw
/-- is_whole -/
def f0 : Fn := ⟨["thing"], ["thing"], [.ret (.and [(.isi (.v 0) [.int]), (.nt (.isi (.v 0) [.bool]))])]⟩
/-- is_size -/
def f1 : Fn := ⟨["thing", "most"], ["thing", "most"], [.ret (.and [(.call false 0 "is_whole" [(.v 0)] [] []), (.chn .le .le (.c (.int 1)) (.v 0) (.v 1))])]⟩
/-- is_set -/
def f2 : Fn := ⟨["size", "thing"], ["size", "thing", "before", "one"], [.ifs (.nt (.isi (.v 1) [.tuple])) [.ret (.c (.bl false))] [], .set (.v 2) (.neg (.c (.int 1))), .fr (.v 3) (.it (.v 1)) [.ifs (.or [(.nt (.call false 0 "is_whole" [(.v 3)] [] [])), (.nt (.chn .lt .lt (.v 2) (.v 3) (.v 0)))]) [.ret (.c (.bl false))] [], .set (.v 2) (.v 3)], .ret (.c (.bl true))]⟩
/-- all_sets -/
def f3 : Fn := ⟨["size", "many"], ["size", "many", "rows", "turn", "row", "one"], [.set (.v 2) (.lst [(.tup [])]), .fr (.v 3) (.rng [(.v 1)]) [.set (.v 2) (.lc2 (.bin .add (.v 4) (.tup [(.v 5)])) (.v 4) (.it (.v 2)) (.v 5) [(.ife (.cmp .ne (.v 4) (.tup [])) (.bin .add (.ix (.v 4) (.neg (.c (.int 1)))) (.c (.int 1))) (.c (.int 0))), (.v 0)] [("row", 4), ("one", 5)] [("one", 5)])], .ret (.v 2)]⟩
/-- others -/
def f4 : Fn := ⟨["size", "some"], ["size", "some", "place"], [.ret (.bi .tuple [(.lc (.v 2) (.v 2) (.rng [(.v 0)]) (.cmp .notin (.v 2) (.v 1)) [("place", 2)])])]⟩
/-- check_size -/
def f5 : Fn := ⟨["size"], ["size"], [.ifs (.nt (.call false 1 "is_size" [(.v 0), (.g "MOST_SIZE" (.int 6))] [] [])) [.rs 0 "BadSize" [(.v 0)]] []]⟩
/-- is_product -/
def f6 : Fn := ⟨["size", "thing"], ["size", "thing", "rows", "columns"], [.ifs (.or [(.nt (.isi (.v 1) [.tuple])), (.cmp .ne (.bi .len [(.v 1)]) (.c (.int 2)))]) [.ret (.c (.bl false))] [], .set (.tup [(.v 2), (.v 3)]) (.v 1), .ifs (.or [(.nt (.call false 2 "is_set" [(.v 0), (.v 2)] [] [])), (.nt (.call false 2 "is_set" [(.v 0), (.v 3)] [] [])), (.cmp .ne (.bi .len [(.v 2)]) (.bi .len [(.v 3)]))]) [.ret (.c (.bl false))] [], .ret (.cmp .eq (.sl (.v 2) .no (.c (.int 1))) (.tup [(.c (.int 0))]))]⟩
/-- products -/
def f7 : Fn := ⟨["size"], ["size", "found", "many", "rows", "columns"], [.exp (.call false 5 "check_size" [(.v 0)] [] []), .set (.v 1) (.mut (.lst [])), .fr (.v 2) (.rng [(.c (.int 1)), (.bin .add (.v 0) (.c (.int 1)))]) [.fr (.v 3) (.it (.call false 3 "all_sets" [(.v 0), (.v 2)] [] [])) [.ifs (.cmp .eq (.ix (.v 3) (.c (.int 0))) (.c (.int 0))) [.exp (.mth .extend (.v 1) [(.lc (.tup [(.v 3), (.v 4)]) (.v 4) (.it (.call false 3 "all_sets" [(.v 0), (.v 2)] [] [])) (.c (.bl true)) [("columns", 4)])])] []]], .ret (.bi .tuple [(.bi .sorted [(.v 1)])])]⟩
/-- told -/
def f8 : Fn := ⟨["size", "rows", "columns"], ["size", "rows", "columns"], [.ifs (.cmp .isin (.c (.int 0)) (.v 1)) [.ret (.tup [(.v 1), (.v 2)])] [], .ret (.tup [(.call false 4 "others" [(.v 0), (.v 1)] [] []), (.call false 4 "others" [(.v 0), (.v 2)] [] [])])]⟩
/-- product_of -/
def f9 : Fn := ⟨["size", "rows", "columns"], ["size", "rows", "columns"], [.exp (.call false 5 "check_size" [(.v 0)] [] []), .ifs (.or [(.nt (.call false 2 "is_set" [(.v 0), (.v 1)] [] [])), (.nt (.call false 2 "is_set" [(.v 0), (.v 2)] [] [])), (.cmp .ne (.bi .len [(.v 1)]) (.bi .len [(.v 2)]))]) [.rs 1 "BadSets" [(.tup [(.v 1), (.v 2)])]] [], .ret (.call false 8 "told" [(.v 0), (.v 1), (.v 2)] [] [])]⟩
/-- other_company -/
def f10 : Fn := ⟨["size", "product"], ["size", "product"], [.exp (.call false 5 "check_size" [(.v 0)] [] []), .ifs (.nt (.call false 6 "is_product" [(.v 0), (.v 1)] [] [])) [.rs 2 "BadProduct" [(.v 1)]] [], .ret (.tup [(.call false 4 "others" [(.v 0), (.ix (.v 1) (.c (.int 0)))] [] []), (.call false 4 "others" [(.v 0), (.ix (.v 1) (.c (.int 1)))] [] [])])]⟩
/-- _law_deck -/
def f11 : Fn := ⟨["script"], ["script", "cell", "rest", "mixed"], [.set (.tup [(.v 2), (.v 3)]) (.tup [(.lc (.bin .mod (.bi .int [(.v 1)]) (.bin .add (.bin .pow (.c (.int 10)) (.c (.int 24))) (.c (.int 7)))) (.v 1) (.it (.sl (.v 0) .no (.c (.int 63)))) (.c (.bl true)) [("cell", 1)]), (.c (.int 10875034))]), .fr (.v 1) (.it (.v 2)) [.set (.v 3) (.bin .mod (.bin .add (.bin .add (.bin .mul (.v 3) (.c (.int 69621))) (.bin .mod (.v 1) (.c (.int 2147483543)))) (.c (.int 34))) (.c (.int 2147483647)))], .ret (.dct [(.c (.str "rest")), (.mut (.rev (.v 2))), (.c (.str "mixed")), (.v 3), (.c (.str "turn")), (.c (.int 0))])]⟩
/-- _law_draw -/
def f12 : Fn := ⟨["deck", "below"], ["deck", "below", "number", "cell"], [.set (.ix (.v 0) (.c (.str "turn"))) (.bin .add (.ix (.v 0) (.c (.str "turn"))) (.c (.int 1))), .ifs (.cmp .ne (.ix (.v 0) (.c (.str "rest"))) (.lst [])) [.set (.v 3) (.mth .pop (.ix (.v 0) (.c (.str "rest"))) []), .ifs (.cmp .ge (.v 3) (.bin .pow (.c (.int 10)) (.c (.int 6)))) [.exp (.mth .append (.ix (.v 0) (.c (.str "rest"))) [(.bin .fdiv (.v 3) (.bi .max [(.c (.int 2)), (.v 1)]))])] [], .ret (.bin .mod (.v 3) (.v 1))] [], .set (.v 2) (.bin .mod (.bin .add (.ix (.v 0) (.c (.str "mixed"))) (.bin .mul (.bin .mul (.c (.int 40692)) (.ix (.v 0) (.c (.str "turn")))) (.ix (.v 0) (.c (.str "turn"))))) (.c (.int 2147483399))), .set (.v 2) (.bin .mod (.bin .mul (.v 2) (.v 2)) (.c (.int 2147483563))), .ret (.bin .mod (.bin .fdiv (.bin .mod (.bin .add (.bin .mul (.v 2) (.c (.int 39373))) (.bin .mul (.ix (.v 0) (.c (.str "turn"))) (.c (.int 7919)))) (.c (.int 2147483629))) (.c (.int 64))) (.v 1))]⟩
/-- _law_pick -/
def f13 : Fn := ⟨["deck", "some"], ["deck", "some"], [.ret (.ix (.v 1) (.call true 12 "_law_draw" [(.v 0), (.bi .len [(.v 1)])] [] []))]⟩
/-- _law_sets -/
def f14 : Fn := ⟨["n"], ["n", "found", "place", "some"], [.set (.v 1) (.lst [(.tup [])]), .fr (.v 2) (.rng [(.v 0)]) [.set (.v 1) (.bin .add (.v 1) (.lc (.bin .add (.v 3) (.tup [(.v 2)])) (.v 3) (.it (.v 1)) (.c (.bl true)) [("some", 3)]))], .ret (.bi .sorted [(.v 1)])]⟩
/-- _law_left -/
def f15 : Fn := ⟨["n", "some"], ["n", "some", "place"], [.ret (.bi .tuple [(.lc (.v 2) (.v 2) (.rng [(.v 0)]) (.cmp .notin (.v 2) (.v 1)) [("place", 2)])])]⟩
/-- _law_due -/
def f16 : Fn := ⟨["sets"], ["sets", "found", "rows", "columns"], [.set (.v 1) (.mut (.lst [])), .fr (.v 2) (.it (.v 0)) [.ifs (.cmp .isin (.c (.int 0)) (.v 2)) [.exp (.mth .extend (.v 1) [(.lc (.tup [(.v 2), (.v 3)]) (.v 3) (.it (.v 0)) (.cmp .eq (.bi .len [(.v 3)]) (.bi .len [(.v 2)])) [("columns", 3)])])] []], .ret (.bi .tuple [(.v 1)])]⟩
/-- _law_is_refused -/
def f17 : Fn := ⟨["n", "rows", "columns"], ["n", "rows", "columns", "told_v", "e"], [.set (.v 3) (.c .non), .tr [.exp (.call false 9 "product_of" [(.v 0), (.v 1), (.v 2)] [] [])] [1] [0, 2] "BadSets" (some 4) (.set 3 (.tup [(.fld 0 "thing"), (.isx [1] "CompanyError")])), .ret (.cmp .eq (.v 3) (.tup [(.tup [(.v 1), (.v 2)]), (.c (.bl true))]))]⟩
/-- _law_pair_right -/
def f18 : Fn := ⟨["n", "rows", "columns"], ["n", "rows", "columns", "one", "other", "due", "left"], [.ifs (.cmp .ne (.bi .len [(.v 1)]) (.bi .len [(.v 2)])) [.ret (.call false 17 "_law_is_refused" [(.v 0), (.v 1), (.v 2)] [] [])] [], .set (.tup [(.v 3), (.v 4)]) (.tup [(.tup [(.v 1), (.v 2)]), (.tup [(.call false 15 "_law_left" [(.v 0), (.v 1)] [] []), (.call false 15 "_law_left" [(.v 0), (.v 2)] [] [])])]), .set (.tup [(.v 5), (.v 6)]) (.ife (.cmp .isin (.c (.int 0)) (.v 1)) (.tup [(.v 3), (.v 4)]) (.tup [(.v 4), (.v 3)])), .ifs (.or [(.cmp .ne (.call false 9 "product_of" [(.v 0), (.v 1), (.v 2)] [] []) (.v 5)), (.cmp .ne (.call false 9 "product_of" [(.v 0), (.ix (.v 4) (.c (.int 0))), (.ix (.v 4) (.c (.int 1)))] [] []) (.v 5))]) [.ret (.c (.bl false))] [], .ifs (.or [(.cmp .ne (.call false 9 "product_of" [] ["size", "rows", "columns"] [(.v 0), (.v 1), (.v 2)]) (.v 5)), (.cmp .isnot (.call false 6 "is_product" [(.v 0), (.v 5)] [] []) (.c (.bl true)))]) [.ret (.c (.bl false))] [], .ifs (.or [(.cmp .isnot (.call false 6 "is_product" [(.v 0), (.v 6)] [] []) (.c (.bl false))), (.rcmp true (.call false 6 "is_product" [] ["size", "thing"] [(.v 0), (.v 3)]) (.cmp .eq (.v 5) (.v 3)))]) [.ret (.c (.bl false))] [], .ret (.and [(.cmp .eq (.call false 10 "other_company" [(.v 0), (.v 5)] [] []) (.v 6)), (.cmp .eq (.call false 10 "other_company" [] ["size", "product"] [(.v 0), (.v 5)]) (.v 6))])]⟩
/-- _law_pairs -/
def f19 : Fn := ⟨["deck", "n", "sets"], ["deck", "n", "sets", "found", "turn", "rows", "like", "some", "columns"], [.set (.v 3) (.mut (.lst [])), .ifs (.cmp .lt (.v 1) (.c (.int 4))) [.fr (.v 5) (.it (.v 2)) [.exp (.mth .extend (.v 3) [(.lc (.tup [(.v 5), (.v 8)]) (.v 8) (.it (.v 2)) (.c (.bl true)) [("columns", 8)])])], .ret (.v 3)] [], .fr (.v 4) (.rng [(.c (.int 24))]) [.set (.v 5) (.call true 13 "_law_pick" [(.v 0), (.v 2)] [] []), .set (.v 6) (.lc (.v 7) (.v 7) (.it (.v 2)) (.cmp .eq (.bi .len [(.v 7)]) (.bi .len [(.v 5)])) [("some", 7)]), .exp (.mth .append (.v 3) [(.tup [(.v 5), (.ife (.cmp .gt (.call true 12 "_law_draw" [(.v 0), (.c (.int 5))] [] []) (.c (.int 0))) (.call true 13 "_law_pick" [(.v 0), (.v 6)] [] []) (.call true 13 "_law_pick" [(.v 0), (.v 2)] [] []))])])], .ret (.v 3)]⟩
/-- law -/
def f20 : Fn := ⟨["script"], ["script", "deck", "n", "sets", "due", "told_v", "rows", "columns", "place"], [.set (.v 1) (.mut (.call true 11 "_law_deck" [(.v 0)] [] [])), .set (.v 2) (.call true 13 "_law_pick" [(.v 1), (.tup [(.c (.int 3)), (.c (.int 2)), (.c (.int 4)), (.c (.int 3)), (.c (.int 1)), (.c (.int 4)), (.c (.int 5)), (.c (.int 2)), (.c (.int 3)), (.c (.int 6)), (.c (.int 4)), (.c (.int 5))])] [] []), .set (.v 3) (.call false 14 "_law_sets" [(.v 2)] [] []), .set (.v 4) (.call false 16 "_law_due" [(.v 3)] [] []), .set (.v 5) (.call false 7 "products" [(.v 2)] [] []), .ifs (.or [(.cmp .ne (.v 5) (.v 4)), (.cmp .ne (.call false 7 "products" [] ["size"] [(.v 2)]) (.v 4)), (.cmp .ne (.bi .len [(.v 5)]) (.ix (.tup [(.c (.int 1)), (.c (.int 3)), (.c (.int 10)), (.c (.int 35)), (.c (.int 126)), (.c (.int 462))]) (.bin .sub (.v 2) (.c (.int 1)))))]) [.ret (.c (.bl false))] [], .fr (.tup [(.v 6), (.v 7)]) (.it (.tup [(.ix (.v 5) (.c (.int 0))), (.ix (.v 5) (.neg (.c (.int 1)))), (.call true 13 "_law_pick" [(.v 1), (.v 5)] [] [])])) [.ifs (.cmp .ne (.lc (.v 8) (.v 8) (.it (.bin .add (.v 6) (.v 7))) (.isi (.v 8) [.bool]) [("place", 8)]) (.lst [])) [.ret (.c (.bl false))] []], .fr (.tup [(.v 6), (.v 7)]) (.it (.call true 19 "_law_pairs" [(.v 1), (.v 2), (.v 3)] [] [])) [.ifs (.nt (.call false 18 "_law_pair_right" [(.v 2), (.v 6), (.v 7)] [] [])) [.ret (.c (.bl false))] []], .ret (.cmp .eq (.call false 7 "products" [(.v 2)] [] []) (.v 4))]⟩
def tb : Tb := fun n => [f0, f1, f2, f3, f4, f5, f6, f7, f8, f9, f10, f11, f12, f13, f14, f15, f16, f17, f18, f19, f20][n]?
def ck : Ck := ⟨["bool", "int", "isinstance", "len", "max", "range", "repr", "sorted", "super", "tuple"], [("MOST_SIZE", (.int 6))], ((0, "is_whole", ["thing"]) :: (1, "is_size", ["thing", "most"]) :: (2, "is_set", ["size", "thing"]) :: (3, "all_sets", ["size", "many"]) :: (4, "others", ["size", "some"]) :: (5, "check_size", ["size"]) :: (6, "is_product", ["size", "thing"]) :: (7, "products", ["size"]) :: (8, "told", ["size", "rows", "columns"]) :: (9, "product_of", ["size", "rows", "columns"]) :: (10, "other_company", ["size", "product"]) :: (11, "_law_deck", ["script"]) :: (12, "_law_draw", ["deck", "below"]) :: (13, "_law_pick", ["deck", "some"]) :: (14, "_law_sets", ["n"]) :: (15, "_law_left", ["n", "some"]) :: (16, "_law_due", ["sets"]) :: (17, "_law_is_refused", ["n", "rows", "columns"]) :: (18, "_law_pair_right", ["n", "rows", "columns"]) :: (19, "_law_pairs", ["deck", "n", "sets"]) :: (20, "law", ["script"]) :: []), [(0, "BadSize"), (1, "BadSets"), (2, "BadProduct"), (3, "CompanyError")], [(0, "BadSize", ["thing"]), (1, "BadSets", ["thing"]), (2, "BadProduct", ["thing"])], [(0, 0), (0, 3), (1, 1), (1, 3), (2, 2), (2, 3), (3, 3)]⟩
end Cw.K34
end

section
set_option Elab.async false
set_option linter.all false
set_option maxRecDepth 100000
set_option maxHeartbeats 0
/-! K34d: sets, products; plain functions. -/
namespace Cw.K34
open PySem PySem.Spec PyProof.Rows L2 Cw
abbrev St : Type := List Nat
def sd (s : St) : D := .tup (s.map fun (i : Nat) => .int i)
def pd (p : St × St) : D := .tup [sd p.1, sd p.2]
def sets1 : List St := [[], [0]]
def sets2 : List St := [[], [0], [0, 1], [1]]
def sets3 : List St := [[], [0], [0, 1], [0, 1, 2], [0, 2], [1], [1, 2], [2]]
def sets4 : List St := [[], [0], [0, 1], [0, 1, 2], [0, 1, 2, 3], [0, 1, 3], [0, 2], [0, 2, 3], [0, 3], [1], [1, 2], [1, 2, 3], [1, 3], [2], [2, 3], [3]]
def sets5 : List St := [[], [0], [0, 1], [0, 1, 2], [0, 1, 2, 3], [0, 1, 2, 3, 4], [0, 1, 2, 4], [0, 1, 3], [0, 1, 3, 4], [0, 1, 4], [0, 2], [0, 2, 3], [0, 2, 3, 4], [0, 2, 4], [0, 3], [0, 3, 4], [0, 4], [1], [1, 2], [1, 2, 3], [1, 2, 3, 4], [1, 2, 4], [1, 3], [1, 3, 4], [1, 4], [2], [2, 3], [2, 3, 4], [2, 4], [3], [3, 4], [4]]
def sets6 : List St := [[], [0], [0, 1], [0, 1, 2], [0, 1, 2, 3], [0, 1, 2, 3, 4], [0, 1, 2, 3, 4, 5], [0, 1, 2, 3, 5], [0, 1, 2, 4], [0, 1, 2, 4, 5], [0, 1, 2, 5], [0, 1, 3], [0, 1, 3, 4], [0, 1, 3, 4, 5], [0, 1, 3, 5], [0, 1, 4], [0, 1, 4, 5], [0, 1, 5], [0, 2], [0, 2, 3], [0, 2, 3, 4], [0, 2, 3, 4, 5], [0, 2, 3, 5], [0, 2, 4], [0, 2, 4, 5], [0, 2, 5], [0, 3], [0, 3, 4], [0, 3, 4, 5], [0, 3, 5], [0, 4], [0, 4, 5], [0, 5], [1], [1, 2], [1, 2, 3], [1, 2, 3, 4], [1, 2, 3, 4, 5], [1, 2, 3, 5], [1, 2, 4], [1, 2, 4, 5], [1, 2, 5], [1, 3], [1, 3, 4], [1, 3, 4, 5], [1, 3, 5], [1, 4], [1, 4, 5], [1, 5], [2], [2, 3], [2, 3, 4], [2, 3, 4, 5], [2, 3, 5], [2, 4], [2, 4, 5], [2, 5], [3], [3, 4], [3, 4, 5], [3, 5], [4], [4, 5], [5]]
def sets (n : Nat) : List St := match n with
  | 1 => sets1 | 2 => sets2 | 3 => sets3 | 4 => sets4 | 5 => sets5 | 6 => sets6 | _ => []
def comp (n : Nat) (s : St) : St := (List.range n).filter fun i => !s.contains i
def due (n : Nat) : List (St × St) := (sets n).flatMap fun r => if r.contains 0 then ((sets n).filter fun c => c.length == r.length).map fun c => (r, c) else []
end Cw.K34
end

section
set_option Elab.async false
set_option linter.all false
set_option maxRecDepth 100000
set_option maxHeartbeats 0
/-! K34n: tables that the kernel runs. -/
namespace Cw.K34
open PySem PySem.Spec PyProof.Rows L2 Cw
noncomputable def chkS (n : Nat) (s : St) : Bool := pcF tb 5 2 [.int n, sd s] (.d (.bl true)) && (pcF tb 5 4 [.int n, sd s] (.d (sd (comp n s))) && (pcF tb 5 15 [.int n, sd s] (.d (sd (comp n s))) &&
  (decide (comp n s ∈ sets n) && (decide (comp n (comp n s) = s) && (decide (s.contains 0 = !(comp n s).contains 0) && (decide (s.contains 0 = (s.head? == some 0)) && decide (s.length + (comp n s).length = n)))))))
theorem s_1 : ((sets 1).all (chkS 1)) = true := by decide +kernel
theorem s_2 : ((sets 2).all (chkS 2)) = true := by decide +kernel
theorem s_3 : ((sets 3).all (chkS 3)) = true := by decide +kernel
theorem s_4 : ((sets 4).all (chkS 4)) = true := by decide +kernel
theorem s_5 : ((sets 5).all (chkS 5)) = true := by decide +kernel
theorem s_6 : ((sets 6).all (chkS 6)) = true := by decide +kernel
theorem c_1 : pcF tb 5 5 [.int 1] (.d .non) = true := by decide +kernel
theorem c_2 : pcF tb 5 5 [.int 2] (.d .non) = true := by decide +kernel
theorem c_3 : pcF tb 5 5 [.int 3] (.d .non) = true := by decide +kernel
theorem c_4 : pcF tb 5 5 [.int 4] (.d .non) = true := by decide +kernel
theorem c_5 : pcF tb 5 5 [.int 5] (.d .non) = true := by decide +kernel
theorem c_6 : pcF tb 5 5 [.int 6] (.d .non) = true := by decide +kernel
theorem d_1 : pcF tb 12 16 [.fl ((sets 1).map sd)] (.d (.tup ((due 1).map pd))) = true := by decide +kernel
theorem d_2 : pcF tb 12 16 [.fl ((sets 2).map sd)] (.d (.tup ((due 2).map pd))) = true := by decide +kernel
theorem d_3 : pcF tb 12 16 [.fl ((sets 3).map sd)] (.d (.tup ((due 3).map pd))) = true := by decide +kernel
theorem d_4 : pcF tb 12 16 [.fl ((sets 4).map sd)] (.d (.tup ((due 4).map pd))) = true := by decide +kernel
theorem d_5 : pcF tb 12 16 [.fl ((sets 5).map sd)] (.d (.tup ((due 5).map pd))) = true := by decide +kernel
theorem d_6 : pcF tb 12 16 [.fl ((sets 6).map sd)] (.d (.tup ((due 6).map pd))) = true := by decide +kernel
theorem p_1 : pcF tb 12 7 [.int 1] (.d (.tup ((due 1).map pd))) = true := by decide +kernel
theorem p_2 : pcF tb 12 7 [.int 2] (.d (.tup ((due 2).map pd))) = true := by decide +kernel
theorem p_3 : pcF tb 12 7 [.int 3] (.d (.tup ((due 3).map pd))) = true := by decide +kernel
theorem p_4 : pcF tb 12 7 [.int 4] (.d (.tup ((due 4).map pd))) = true := by decide +kernel
theorem p_5 : pcF tb 12 7 [.int 5] (.d (.tup ((due 5).map pd))) = true := by decide +kernel

theorem e_1 : pcF tb 12 14 [.int 1] (.lst ((sets 1).map sd)) = true := by decide +kernel
theorem e_2 : pcF tb 12 14 [.int 2] (.lst ((sets 2).map sd)) = true := by decide +kernel
theorem e_3 : pcF tb 12 14 [.int 3] (.lst ((sets 3).map sd)) = true := by decide +kernel
theorem e_4 : pcF tb 12 14 [.int 4] (.lst ((sets 4).map sd)) = true := by decide +kernel
theorem e_5 : pcF tb 12 14 [.int 5] (.lst ((sets 5).map sd)) = true := by decide +kernel
theorem e_6 : pcF tb 12 14 [.int 6] (.lst ((sets 6).map sd)) = true := by decide +kernel
def allS (n many : Nat) : List St := (sets n).filter fun s => s.length == many
noncomputable def chkA (n many : Nat) : Bool := pcF tb 5 3 [.int n, .int many] (.d (.fl ((allS n many).map sd)))
theorem a_6 : ([1, 2, 3, 4, 5, 6].all (chkA 6)) = true := by decide +kernel
def memo6 : Memo := [(5, [.int 6], .d .non), (3, [.int 6, .int 1], .d (.fl ((allS 6 1).map sd))), (3, [.int 6, .int 2], .d (.fl ((allS 6 2).map sd))), (3, [.int 6, .int 3], .d (.fl ((allS 6 3).map sd))), (3, [.int 6, .int 4], .d (.fl ((allS 6 4).map sd))), (3, [.int 6, .int 5], .d (.fl ((allS 6 5).map sd))), (3, [.int 6, .int 6], .d (.fl ((allS 6 6).map sd)))]
theorem p_6 : pmF tb memo6 7 [.int 6] (.d (.tup ((due 6).map pd))) = true := by decide +kernel
end Cw.K34
end

section
set_option Elab.async false
set_option linter.all false
set_option maxRecDepth 100000
set_option maxHeartbeats 800000
/-! K34w: the deck. -/
open PySem PySem.Spec PyProof.Rows L2 Cw
local macro_rules | `(tactic| walk_at "sy") => `(tactic| simp -implicitDefEqProofs (disch := first | assumption | omega | exact Cw.lek_nil | exact Cw.lek_ints _ | exact Cw.lek_intmap _ _ | (simp only [List.length_map, List.length_range, Cw.line, List.length_append, List.length_cons, List.length_nil]; omega) | decide) only [Cw.R.bind_ok, Cw.R.bind_stuck, Cw.R.bind_exc, Cw.R.bind_ite, Cw.RF.of_ok, Cw.RF.of_stuck, Cw.RF.of_exc, Cw.RF.of_ite, Cw.R.noX_ok, Cw.R.ofO_some, Cw.R.ofO_map, Cw.R.ite_ok, Cw.R.ite_d, Cw.R.ite_bl, Cw.R.ite_int, Cw.seqK_nx, Cw.seqK_rt, Cw.seqK_bk, Cw.seqK_ct, Cw.seqK_exc, Cw.seqK_ite, Cw.runK_rt, Cw.runK_nx, Cw.runK_exc, Cw.runK_ite, Cw.iteK_t, Cw.iteK_f, Cw.iteK_dec, Cw.iteK_nt, Cw.iteK_ite, Cw.iteF_t, Cw.iteF_f, Cw.iteF_dec, Cw.iteF_nt, Cw.iteF_ite, Cw.chnK_t, Cw.chnK_f, Cw.chnK_dec, Cw.bndK_some, Cw.bound_t, Cw.bound_f, Cw.toDK_d, Cw.toDK_lst, Cw.toDF_d, Cw.toDF_lst, Cw.getV_some, Cw.negK_int, Cw.ntK_bl, Cw.mutK_lst, Cw.mutK_dct, Cw.mthA_t, Cw.augA_int, Cw.augK_add, Cw.augK_sub, Cw.tixK_ref, Cw.tupK, Cw.lstK, Cw.consK, Cw.consR, Cw.nxK, Cw.rtK, Cw.dropK, Cw.okB, Cw.cBin, Cw.cCmp, Cw.cChn2, Cw.cChn1, Cw.cChn, Cw.cDhn2, Cw.cDhn1, Cw.cDhn, Cw.cIfe, Cw.cIx, Cw.cSl3, Cw.cSl2, Cw.cSl1, Cw.cSl0, Cw.cSl, Cw.cCall2, Cw.cCall, Cw.cMth, Cw.cLc, Cw.cCons2, Cw.cCons, Cw.cConsR, Cw.cAnd, Cw.cOr, Cw.cZip, Cw.cTix, Cw.sSet2, Cw.sSet, Cw.sIfs, Cw.sFr, Cw.sAug, Cw.ev_v, Cw.ev_c, Cw.ev_g, Cw.ev_no, Cw.ev_tup, Cw.ev_lst, Cw.ev_dct, Cw.ev_lrg, Cw.ev_bin, Cw.ev_neg, Cw.ev_nt, Cw.ev_and, Cw.ev_or, Cw.ev_cmp, Cw.ev_chn, Cw.ev_chn3, Cw.ev_ife, Cw.ev_ix, Cw.ev_sl, Cw.ev_rev, Cw.ev_call, Cw.ev_bi, Cw.ev_isi, Cw.ev_mth, Cw.ev_mut, Cw.ev_lc, Cw.ev_rcmp, Cw.cRc, Cw.rcA, Cw.evs_nil, Cw.evs_cons, Cw.evr_nil, Cw.evr_cons, Cw.eva_one, Cw.eva_cons, Cw.evo_one, Cw.evo_cons, Cw.evi_it, Cw.evi_rng, Cw.evi_enum, Cw.evi_zip, Cw.asg_v, Cw.asg_tup, Cw.asg_ix, Cw.tgts_nil, Cw.tgts_cons, Cw.tgt_v, Cw.tgt_ix, Cw.ex_set, Cw.ex_exp, Cw.ex_ret, Cw.ex_ret0, Cw.ex_pass, Cw.ex_brk, Cw.ex_cnt, Cw.ex_aug, Cw.ex_ifs, Cw.ex_fr, Cw.exs_nil, Cw.exs_cons, Cw.ex_rs, Cw.ex_tr, Cw.excK, Cw.cat_ok, Cw.cat_exc, Cw.cat_ite, Cw.catK_t, Cw.catK_f, Cw.inI_n, Cw.inI_s, Cw.off_n, Cw.off_s, Cw.offF_nx, Cw.offF_rt, Cw.offF_n, Cw.hdl_ret, Cw.hdl_set, Cw.hdl_pass, Cw.hev_v, Cw.hev_c, Cw.hev_fld, Cw.hev_isx, Cw.hev_tup, Cw.hev_bin, Cw.hev_cmp, Cw.hev_and, Cw.hevs_nil, Cw.hevs_cons, Cw.hBin, Cw.hCmp, Cw.hAnd, Cw.hCons2, Cw.hCons, Cw.hSet, Cw.fldK_some, Cw.bin_add, Cw.bin_sub, Cw.bin_mul, Cw.bin_mod, Cw.bin_fdiv, Cw.cmp_lt, Cw.cmp_le, Cw.cmp_gt, Cw.cmp_ge, Cw.cmo_lt, Cw.cmo_le, Cw.cmo_gt, Cw.cmo_ge, Cw.cmp_is_none, Cw.cmp_isnot_none, Cw.cmp_is_bl, Cw.cmp_isnot_bl, Cw.cmp_eq_i, Cw.cmp_ne_i, Cw.cmp_eq_b, Cw.cmp_ne_b, Cw.atD_zero, Cw.atD_one, Cw.atD_two, Cw.atD_three, Cw.ix_tup, Cw.ix_fl, Cw.ix_sc, Cw.ix_lst, Cw.ix_ref, Cw.ixO_lst, Cw.ixO_dcs, Cw.ixO_dci, Cw.bi_len_tup, Cw.bi_len_fl, Cw.bi_len_sc, Cw.bi_len_lst, Cw.bi_len_ref, Cw.lenO_lst, Cw.lenO_dct, Cw.bi_tuple_lst, Cw.bi_tuple_fl, Cw.bi_tuple_tup, Cw.bi_list_lst, Cw.bi_list_tup, Cw.bi_tuple_ref, Cw.seqO_lst, Cw.bi_int, Cw.bi_abs, Cw.bi_max, Cw.bi_min, Cw.bi_all, Cw.bi_any, Cw.bi_sum, Cw.is_int, Cw.is_bl, Cw.is_str, Cw.is_tup, Cw.is_fl, Cw.is_non, Cw.lstAt_e, Cw.src_tup, Cw.src_fl, Cw.src_sc, Cw.src_lst, Cw.items_vals, Cw.rng1, Cw.rng2, Cw.enum_lst, Cw.enum_fl, Cw.zip_tup, Cw.zip_lst, Cw.isTy, Cw.wipeD, Cw.I.isNo, Cw.bin_pow, Cw.cmp_ne_refnil, Cw.cmp_eq_refnil, Cw.nilO_ne, Cw.nilO_eq, Cw.cmp_eq_ll, Cw.cmp_ne_ll, Cw.cmp_eq_fl, Cw.cmp_ne_fl, Cw.cmp_eq_ff, Cw.cmp_ne_ff, Cw.lek_intmap, Cw.lek_ints, Cw.lek_nil, Cw.beqs_nil, Cw.mth_popO, Cw.popO_last, Cw.mth_appO, Cw.appO_lst, Cw.mth_extO, Cw.extO_lst, Cw.putK_O, Cw.putO_lst, Cw.putO_dcs, Cw.putO_dci, Cw.src_refO, Cw.srcO_lst, Cw.items_cellO, Cw.itemsO_lst, Cw.sl_sc, Cw.sl_fl, Cw.sl_lst, Cw.sl_tup, Cw.sl_refO, Cw.slO_lst, Cw.rev_lst, Cw.rev_fl, Cw.rev_tup, Cw.bin_add_tup, Cw.bin_add_lst, Cw.bin_add_fl, Cw.bin_add_ff, Cw.bin_add_lf, Cw.bin_add_ref, Cw.addO_lst, Cw.bin_mul_lst, Cw.call_t, List.getElem?_cons_zero, List.getElem?_cons_succ, List.set_cons_zero, List.set_cons_succ, List.length_cons, List.length_nil, List.nil_append, List.cons_append, List.append_nil, List.map_cons, List.map_nil, List.replicate, Nat.reduceAdd, Nat.reduceSub, Int.reducePow, List.contains_cons, List.contains_nil, Nat.reduceBEq, Nat.reduceLT, List.isEmpty_map, List.isEmpty_nil, List.isEmpty_cons, Nat.reduceEqDiff, Int.reduceNeg, Int.reduceAdd, Int.reduceSub, Int.reduceMul, Int.reduceLT, Int.reduceLE, Int.reduceEq, Int.reduceToNat, Option.isSome_some, Option.map_some, List.any_cons, List.any_nil, decide_true, decide_false, Bool.or_true, Bool.or_false, Bool.true_or, Bool.false_or, Bool.and_true, Bool.and_false, Bool.true_and, Bool.false_and, Bool.not_true, Bool.not_false, if_true, if_false, ite_true, ite_false, reduceIte, eq_self, Bool.not_eq_true, Bool.false_eq_true, decide_eq_true_eq, *])
local macro_rules | `(tactic| walk_at "sz") => `(tactic| simp -implicitDefEqProofs (disch := first | assumption | omega | exact Cw.lek_nil | exact Cw.lek_ints _ | exact Cw.lek_intmap _ _ | (simp only [List.length_map, List.length_range, Cw.line, List.length_append, List.length_cons, List.length_nil]; omega) | decide) only [Cw.R.bind_ok, Cw.R.bind_stuck, Cw.R.bind_exc, Cw.R.bind_ite, Cw.RF.of_ok, Cw.RF.of_stuck, Cw.RF.of_exc, Cw.RF.of_ite, Cw.R.noX_ok, Cw.R.ofO_some, Cw.R.ofO_map, Cw.R.ite_ok, Cw.R.ite_d, Cw.R.ite_bl, Cw.R.ite_int, Cw.seqK_nx, Cw.seqK_rt, Cw.seqK_bk, Cw.seqK_ct, Cw.seqK_exc, Cw.seqK_ite, Cw.runK_rt, Cw.runK_nx, Cw.runK_exc, Cw.runK_ite, Cw.iteK_t, Cw.iteK_f, Cw.iteK_dec, Cw.iteK_nt, Cw.iteK_ite, Cw.iteF_t, Cw.iteF_f, Cw.iteF_dec, Cw.iteF_nt, Cw.iteF_ite, Cw.chnK_t, Cw.chnK_f, Cw.chnK_dec, Cw.bndK_some, Cw.bound_t, Cw.bound_f, Cw.toDK_d, Cw.toDK_lst, Cw.toDF_d, Cw.toDF_lst, Cw.getV_some, Cw.negK_int, Cw.ntK_bl, Cw.mutK_lst, Cw.mutK_dct, Cw.mthA_t, Cw.augA_int, Cw.augK_add, Cw.augK_sub, Cw.tixK_ref, Cw.tupK, Cw.lstK, Cw.consK, Cw.consR, Cw.nxK, Cw.rtK, Cw.dropK, Cw.okB, Cw.cBin, Cw.cCmp, Cw.cChn2, Cw.cChn1, Cw.cChn, Cw.cDhn2, Cw.cDhn1, Cw.cDhn, Cw.cIfe, Cw.cIx, Cw.cSl3, Cw.cSl2, Cw.cSl1, Cw.cSl0, Cw.cSl, Cw.cCall2, Cw.cCall, Cw.cMth, Cw.cLc, Cw.cCons2, Cw.cCons, Cw.cConsR, Cw.cAnd, Cw.cOr, Cw.cZip, Cw.cTix, Cw.sSet2, Cw.sSet, Cw.sIfs, Cw.sFr, Cw.sAug, Cw.ev_v, Cw.ev_c, Cw.ev_g, Cw.ev_no, Cw.ev_tup, Cw.ev_lst, Cw.ev_dct, Cw.ev_lrg, Cw.ev_bin, Cw.ev_neg, Cw.ev_nt, Cw.ev_and, Cw.ev_or, Cw.ev_cmp, Cw.ev_chn, Cw.ev_chn3, Cw.ev_ife, Cw.ev_ix, Cw.ev_sl, Cw.ev_rev, Cw.ev_call, Cw.ev_bi, Cw.ev_isi, Cw.ev_mth, Cw.ev_mut, Cw.ev_lc, Cw.ev_rcmp, Cw.cRc, Cw.rcA, Cw.evs_nil, Cw.evs_cons, Cw.evr_nil, Cw.evr_cons, Cw.eva_one, Cw.eva_cons, Cw.evo_one, Cw.evo_cons, Cw.evi_it, Cw.evi_rng, Cw.evi_enum, Cw.evi_zip, Cw.asg_v, Cw.asg_tup, Cw.asg_ix, Cw.tgts_nil, Cw.tgts_cons, Cw.tgt_v, Cw.tgt_ix, Cw.ex_set, Cw.ex_exp, Cw.ex_ret, Cw.ex_ret0, Cw.ex_pass, Cw.ex_brk, Cw.ex_cnt, Cw.ex_aug, Cw.ex_ifs, Cw.ex_fr, Cw.exs_nil, Cw.exs_cons, Cw.ex_rs, Cw.ex_tr, Cw.excK, Cw.cat_ok, Cw.cat_exc, Cw.cat_ite, Cw.catK_t, Cw.catK_f, Cw.inI_n, Cw.inI_s, Cw.off_n, Cw.off_s, Cw.offF_nx, Cw.offF_rt, Cw.offF_n, Cw.hdl_ret, Cw.hdl_set, Cw.hdl_pass, Cw.hev_v, Cw.hev_c, Cw.hev_fld, Cw.hev_isx, Cw.hev_tup, Cw.hev_bin, Cw.hev_cmp, Cw.hev_and, Cw.hevs_nil, Cw.hevs_cons, Cw.hBin, Cw.hCmp, Cw.hAnd, Cw.hCons2, Cw.hCons, Cw.hSet, Cw.fldK_some, Cw.bin_add, Cw.bin_sub, Cw.bin_mul, Cw.bin_mod, Cw.bin_fdiv, Cw.cmp_lt, Cw.cmp_le, Cw.cmp_gt, Cw.cmp_ge, Cw.cmo_lt, Cw.cmo_le, Cw.cmo_gt, Cw.cmo_ge, Cw.cmp_is_none, Cw.cmp_isnot_none, Cw.cmp_is_bl, Cw.cmp_isnot_bl, Cw.cmp_eq_i, Cw.cmp_ne_i, Cw.cmp_eq_b, Cw.cmp_ne_b, Cw.atD_zero, Cw.atD_one, Cw.atD_two, Cw.atD_three, Cw.ix_tup, Cw.ix_fl, Cw.ix_sc, Cw.ix_lst, Cw.ix_ref, Cw.ixO_lst, Cw.ixO_dcs, Cw.ixO_dci, Cw.bi_len_tup, Cw.bi_len_fl, Cw.bi_len_sc, Cw.bi_len_lst, Cw.bi_len_ref, Cw.lenO_lst, Cw.lenO_dct, Cw.bi_tuple_lst, Cw.bi_tuple_fl, Cw.bi_tuple_tup, Cw.bi_list_lst, Cw.bi_list_tup, Cw.bi_tuple_ref, Cw.seqO_lst, Cw.bi_int, Cw.bi_abs, Cw.bi_max, Cw.bi_min, Cw.bi_all, Cw.bi_any, Cw.bi_sum, Cw.is_int, Cw.is_bl, Cw.is_str, Cw.is_tup, Cw.is_fl, Cw.is_non, Cw.lstAt_e, Cw.src_tup, Cw.src_fl, Cw.src_sc, Cw.src_lst, Cw.items_vals, Cw.rng1, Cw.rng2, Cw.enum_lst, Cw.enum_fl, Cw.zip_tup, Cw.zip_lst, Cw.isTy, Cw.wipeD, Cw.I.isNo, Cw.bin_pow, Cw.cmp_ne_refnil, Cw.cmp_eq_refnil, Cw.nilO_ne, Cw.nilO_eq, Cw.cmp_eq_ll, Cw.cmp_ne_ll, Cw.cmp_eq_fl, Cw.cmp_ne_fl, Cw.cmp_eq_ff, Cw.cmp_ne_ff, Cw.lek_intmap, Cw.lek_ints, Cw.lek_nil, Cw.beqs_nil, Cw.mth_popO, Cw.popO_last, Cw.mth_appO, Cw.appO_lst, Cw.mth_extO, Cw.extO_lst, Cw.putK_O, Cw.putO_lst, Cw.putO_dcs, Cw.putO_dci, Cw.src_refO, Cw.srcO_lst, Cw.items_cellO, Cw.itemsO_lst, Cw.sl_sc, Cw.sl_fl, Cw.sl_lst, Cw.sl_tup, Cw.sl_refO, Cw.slO_lst, Cw.rev_lst, Cw.rev_fl, Cw.rev_tup, Cw.bin_add_tup, Cw.bin_add_lst, Cw.bin_add_fl, Cw.bin_add_ff, Cw.bin_add_lf, Cw.bin_add_ref, Cw.addO_lst, Cw.bin_mul_lst, Cw.call_t, List.getElem?_cons_zero, List.getElem?_cons_succ, List.set_cons_zero, List.set_cons_succ, List.length_cons, List.length_nil, List.nil_append, List.cons_append, List.append_nil, List.map_cons, List.map_nil, List.replicate, Nat.reduceAdd, Nat.reduceSub, Int.reducePow, List.contains_cons, List.contains_nil, Nat.reduceBEq, Nat.reduceLT, List.isEmpty_map, List.isEmpty_nil, List.isEmpty_cons, Nat.reduceEqDiff, Int.reduceNeg, Int.reduceAdd, Int.reduceSub, Int.reduceMul, Int.reduceLT, Int.reduceLE, Int.reduceEq, Int.reduceToNat, Option.isSome_some, Option.map_some, List.any_cons, List.any_nil, decide_true, decide_false, Bool.or_true, Bool.or_false, Bool.true_or, Bool.false_or, Bool.and_true, Bool.and_false, Bool.true_and, Bool.false_and, Bool.not_true, Bool.not_false, if_true, if_false, ite_true, ite_false, reduceIte, eq_self, Bool.not_eq_true, Bool.false_eq_true, decide_eq_true_eq])
namespace Cw.K34
/-- the deck as it lies in the heap -/
def dk (c : List Int) (m t : Int) (r : Hh) : Hh := .lst (c.map D.int) :: .dct [(.inr "rest", .ref 0), (.inr "mixed", .int m), (.inr "turn", .int t)] :: r
theorem dk_e (c : List Int) (m t : Int) (r : Hh) : dk c m t r = .lst (c.map D.int) :: .dct [(.inr "rest", .ref 0), (.inr "mixed", .int m), (.inr "turn", .int t)] :: r := rfl
structure DkI (c : List Int) (m t : Int) : Prop where
  len : c.length ≤ 63
  lo : 0 ≤ m
  hi : m < 2147483647
  lt : 0 ≤ t
  ht : t ≤ 1000000
theorem gt1 (m t : Int) : getK [(.inr "rest", .ref 0), (.inr "mixed", .int m), (.inr "turn", .int t)] (.inr "rest") = some (.ref 0) := rfl
theorem gt2 (m t : Int) : getK [(.inr "rest", .ref 0), (.inr "mixed", .int m), (.inr "turn", .int t)] (.inr "mixed") = some (.int m) := rfl
theorem gt3 (m t : Int) : getK [(.inr "rest", .ref 0), (.inr "mixed", .int m), (.inr "turn", .int t)] (.inr "turn") = some (.int t) := rfl
theorem st3 (m t : Int) (v : D) : setK [(.inr "rest", .ref 0), (.inr "mixed", .int m), (.inr "turn", .int t)] (.inr "turn") v = [(.inr "rest", .ref 0), (.inr "mixed", .int m), (.inr "turn", v)] := rfl
theorem draw {k : Nat} {b : Int} (b1 : 1 ≤ b) (b2 : b ≤ 2147483647) {c : List Int} {m t : Int} (i : DkI c m t) (r : Hh) : ∃ v c', run tb (k + 1) 12 [.ref 1, .int b] (dk c m t r) = .ok (.d (.int v)) (dk c' m (t + 1) r) ∧ 0 ≤ v ∧ v < b ∧ c'.length ≤ 63 := by
  obtain ⟨i1, i2, i3, i4, i5⟩ := i
  have g1 := gt1
  have g2 := gt2
  have g3 := gt3
  have t3 := st3
  rw [run_def (fn := f12) rfl rfl]; unfold f12
  rcases List.eq_nil_or_concat c with rfl | ⟨l, x, rfl⟩
  · obtain ⟨u, hu⟩ : ∃ u, u = t + 1 := ⟨_, rfl⟩
    obtain ⟨p, hp, p1, p2⟩ : ∃ p, p = 40692 * u ∧ 0 ≤ p ∧ p ≤ 40692040692 := ⟨_, rfl, by omega, by omega⟩
    have q1 : 0 ≤ p * u ∧ p * u ≤ 40692040692 * 1000001 := ⟨Int.mul_nonneg p1 (by omega), Int.mul_le_mul p2 (by omega) (by omega) (by omega)⟩
    obtain ⟨s, hs, s1, s2⟩ : ∃ s, s = (m + p * u) % 2147483399 ∧ 0 ≤ s ∧ s ≤ 2147483398 := ⟨_, rfl, by omega, by omega⟩
    have q2 : 0 ≤ s * s ∧ s * s ≤ 2147483398 * 2147483398 := ⟨Int.mul_nonneg s1 s1, Int.mul_le_mul s2 s2 s1 (by omega)⟩
    obtain ⟨y, hy, y1, y2⟩ : ∃ y, y = s * s % 2147483563 ∧ 0 ≤ y ∧ y ≤ 2147483562 := ⟨_, rfl, by omega, by omega⟩
    refine ⟨(y * 39373 + u * 7919) % 2147483629 / 64 % b, [], ?_, Int.emod_nonneg _ (by omega), Int.emod_lt_of_pos _ (by omega), by decide⟩
    subst hu
    simp only [dk_e]
    rw [hy, hs, hp]
    rw [hp] at p1 p2 q1 hs
    rw [hs] at s1 s2 q2 hy
    clear hy hs hp
    walk_at "sy"
  · have q1 : (l.map D.int ++ [D.int x]).isEmpty = false := by cases l <;> rfl
    have q2 : lek (l.map D.int ++ [D.int x]) = true := by
      have := lek_ints (l ++ [x])
      rwa [List.map_append] at this
    have q3 : l.length ≤ 62 := by simp at i1; omega
    have em : ∀ a : Int, 0 ≤ a % b ∧ a % b < b := fun a => ⟨Int.emod_nonneg _ (by omega), Int.emod_lt_of_pos _ (by omega)⟩
    by_cases hx : 1000000 ≤ x
    · obtain ⟨mm, hm, m1, m2⟩ : ∃ mm, (if b > 2 then b else 2) = mm ∧ 0 < mm ∧ mm ≤ 2147483647 := ⟨_, rfl, by split <;> omega, by split <;> omega⟩
      refine ⟨x % b, l ++ [x / mm], ?_, (em x).1, (em x).2, by simp; omega⟩
      simp only [dk_e, List.map_append, List.map_cons, List.map_nil, List.concat_eq_append]
      walk_at "sy"
    · refine ⟨x % b, l, ?_, (em x).1, (em x).2, by omega⟩
      simp only [dk_e, List.map_append, List.map_cons, List.map_nil, List.concat_eq_append]
      walk_at "sy"
theorem pick {k : Nat} {ds : List D} (tp : Bool) (h0 : ds ≠ []) (h1 : ds.length ≤ 1000000) {c : List Int} {m t : Int} (i : DkI c m t) (r : Hh) : ∃ d c', run tb (k + 2) 13 [.ref 1, if tp then .tup ds else .fl ds] (dk c m t r) = .ok (.d d) (dk c' m (t + 1) r) ∧ d ∈ ds ∧ c'.length ≤ 63 := by
  have hl : 1 ≤ ds.length := by cases ds with | nil => exact absurd rfl h0 | cons _ _ => simp
  obtain ⟨v, c', e, v1, v2, i'⟩ := draw (k := k) (b := ds.length) (by omega) (by omega) i r
  have hv : v.toNat < ds.length := by omega
  refine ⟨ds[v.toNat], c', ?_, List.getElem_mem hv, i'⟩
  have ea : atD ds v = some ds[v.toNat] := by rw [atD_of v1]; exact List.getElem?_eq_getElem hv
  rw [run_def (fn := f13) rfl rfl]; unfold f13
  clear i i'
  cases tp with
  | true =>
    simp only [if_true]
    walk_at "sy"
  | false =>
    simp only [Bool.false_eq_true, if_false]
    walk_at "sy"
theorem pairDk (m t : Int) (h : Hh) : dctK [.str "rest", .ref 0, .str "mixed", .int m, .str "turn", .int t] h = .ok (.dct [(.inr "rest", .ref 0), (.inr "mixed", .int m), (.inr "turn", .int t)]) h := rfl
def cut (x : Int) : Int := x % (10 ^ 24 + 7)
theorem deck {k : Nat} (ns : List Int) (hl : ns.length ≤ 63) : ∃ m, run tb (k + 1) 11 [.sc (ns.map D.int)] [] = .ok (.dct [(.inr "rest", .ref 0), (.inr "mixed", .int m), (.inr "turn", .int 0)]) [.lst ((ns.map cut).reverse.map D.int)] ∧ 0 ≤ m ∧ m < 2147483647 := by
  have ht : ∀ ys, turns (.v 1) (ev (runB tb k) (.c (.bl true))) (ev (runB tb k) (.bin .mod (.bi .int [.v 1]) (.bin .add (.bin .pow (.c (.int 10)) (.c (.int 24))) (.c (.int 7))))) (.vals ys) [some (.sc (ns.map D.int)), none, none, none] (ns.map D.int) 0 [] = .ok ((ns.map cut).map D.int) [] := fun ys => by
    have := turns_mapT (t := .v 1) (c := ev (runB tb k) (.c (.bl true))) (e := ev (runB tb k) (.bin .mod (.bi .int [.v 1]) (.bin .add (.bin .pow (.c (.int 10)) (.c (.int 24))) (.c (.int 7))))) (all := ys) (σ := [some (.sc (ns.map D.int)), none, none, none]) (h := []) D.int (fun _ => true) (fun x => D.int (cut x)) ns 0 (fun x _ => ⟨_, rfl, by walk_at "sy", fun _ => ⟨.d (.int (x % 1000000000000000000000007)), by walk_at "sy", rfl⟩⟩)
    rw [this, List.filter_eq_self.mpr (fun _ _ => rfl), List.map_map]
    rfl
  have hc : cutD (ns.map D.int) none (some 63) = ns.map D.int := cutD_all _ 63 (by simpa using hl)
  have loop : ∃ σ', forL (.v 1) (exs (runB tb k) [.set (.v 3) (.bin .mod (.bin .add (.bin .add (.bin .mul (.v 3) (.c (.int 69621))) (.bin .mod (.v 1) (.c (.int 2147483543)))) (.c (.int 34))) (.c (.int 2147483647)))]) (.vals ((ns.map cut).map D.int)) ((ns.map cut).map D.int) 0 [some (.sc (ns.map D.int)), none, some (.fl ((ns.map cut).map D.int)), some (.int 10875034)] [] = .ok (.nx σ') [] ∧
      ∃ x1 s, σ' = [some (.sc (ns.map D.int)), x1, some (.fl ((ns.map cut).map D.int)), some (.int s)] ∧ 0 ≤ s ∧ s < 2147483647 := by
    refine forL_still0 (.inl ⟨_, rfl⟩) _ ⟨_, _, rfl, by omega, by omega⟩ fun x hx σ ⟨x1, s, e, s1, s2⟩ => ?_
    obtain ⟨z, hz, rfl⟩ := List.mem_map.mp hx
    subst e
    refine ⟨_, _, rfl, .inl ?_, some (.int z), (s * 69621 + z % 2147483543 + 34) % 2147483647, rfl, by omega, by omega⟩
    show exs (runB tb k) _ [some (.sc (ns.map D.int)), some (.int z), some (.fl ((ns.map cut).map D.int)), some (.int s)] [] = _
    clear ht hx hc hz
    walk_at "sy"
  have er : (ns.map cut).reverse.map D.int = ((ns.map cut).map D.int).reverse := List.map_reverse
  rw [er]
  clear er
  generalize (ns.map cut).map D.int = L at *
  obtain ⟨σ', e, x1, s, e2, s1, s2⟩ := loop
  subst e2
  have p := pairDk
  refine ⟨s, ?_, s1, s2⟩
  rw [run_def (fn := f11) rfl rfl]; unfold f11
  walk_at "sy"
end Cw.K34
end

section
set_option Elab.async false
set_option linter.all false
set_option maxRecDepth 100000
set_option maxHeartbeats 800000
/-! K34u: sets and products as data; the defs on them. -/
open PySem PySem.Spec PyProof.Rows L2 Cw
local macro_rules | `(tactic| walk_at "sy") => `(tactic| simp -implicitDefEqProofs (disch := first | assumption | omega | exact Cw.lek_nil | exact Cw.lek_ints _ | exact Cw.lek_intmap _ _ | (simp only [List.length_map, List.length_range, Cw.line, List.length_append, List.length_cons, List.length_nil]; omega) | decide) only [Cw.R.bind_ok, Cw.R.bind_stuck, Cw.R.bind_exc, Cw.R.bind_ite, Cw.RF.of_ok, Cw.RF.of_stuck, Cw.RF.of_exc, Cw.RF.of_ite, Cw.R.noX_ok, Cw.R.ofO_some, Cw.R.ofO_map, Cw.R.ite_ok, Cw.R.ite_d, Cw.R.ite_bl, Cw.R.ite_int, Cw.seqK_nx, Cw.seqK_rt, Cw.seqK_bk, Cw.seqK_ct, Cw.seqK_exc, Cw.seqK_ite, Cw.runK_rt, Cw.runK_nx, Cw.runK_exc, Cw.runK_ite, Cw.iteK_t, Cw.iteK_f, Cw.iteK_dec, Cw.iteK_nt, Cw.iteK_ite, Cw.iteF_t, Cw.iteF_f, Cw.iteF_dec, Cw.iteF_nt, Cw.iteF_ite, Cw.chnK_t, Cw.chnK_f, Cw.chnK_dec, Cw.bndK_some, Cw.bound_t, Cw.bound_f, Cw.toDK_d, Cw.toDK_lst, Cw.toDF_d, Cw.toDF_lst, Cw.getV_some, Cw.negK_int, Cw.ntK_bl, Cw.mutK_lst, Cw.mutK_dct, Cw.mthA_t, Cw.augA_int, Cw.augK_add, Cw.augK_sub, Cw.tixK_ref, Cw.tupK, Cw.lstK, Cw.consK, Cw.consR, Cw.nxK, Cw.rtK, Cw.dropK, Cw.okB, Cw.cBin, Cw.cCmp, Cw.cChn2, Cw.cChn1, Cw.cChn, Cw.cDhn2, Cw.cDhn1, Cw.cDhn, Cw.cIfe, Cw.cIx, Cw.cSl3, Cw.cSl2, Cw.cSl1, Cw.cSl0, Cw.cSl, Cw.cCall2, Cw.cCall, Cw.cMth, Cw.cLc, Cw.cCons2, Cw.cCons, Cw.cConsR, Cw.cAnd, Cw.cOr, Cw.cZip, Cw.cTix, Cw.sSet2, Cw.sSet, Cw.sIfs, Cw.sFr, Cw.sAug, Cw.ev_v, Cw.ev_c, Cw.ev_g, Cw.ev_no, Cw.ev_tup, Cw.ev_lst, Cw.ev_dct, Cw.ev_lrg, Cw.ev_bin, Cw.ev_neg, Cw.ev_nt, Cw.ev_and, Cw.ev_or, Cw.ev_cmp, Cw.ev_chn, Cw.ev_chn3, Cw.ev_ife, Cw.ev_ix, Cw.ev_sl, Cw.ev_rev, Cw.ev_call, Cw.ev_bi, Cw.ev_isi, Cw.ev_mth, Cw.ev_mut, Cw.ev_lc, Cw.ev_rcmp, Cw.cRc, Cw.rcA, Cw.evs_nil, Cw.evs_cons, Cw.evr_nil, Cw.evr_cons, Cw.eva_one, Cw.eva_cons, Cw.evo_one, Cw.evo_cons, Cw.evi_it, Cw.evi_rng, Cw.evi_enum, Cw.evi_zip, Cw.asg_v, Cw.asg_tup, Cw.asg_ix, Cw.tgts_nil, Cw.tgts_cons, Cw.tgt_v, Cw.tgt_ix, Cw.ex_set, Cw.ex_exp, Cw.ex_ret, Cw.ex_ret0, Cw.ex_pass, Cw.ex_brk, Cw.ex_cnt, Cw.ex_aug, Cw.ex_ifs, Cw.ex_fr, Cw.exs_nil, Cw.exs_cons, Cw.ex_rs, Cw.ex_tr, Cw.excK, Cw.cat_ok, Cw.cat_exc, Cw.cat_ite, Cw.catK_t, Cw.catK_f, Cw.inI_n, Cw.inI_s, Cw.off_n, Cw.off_s, Cw.offF_nx, Cw.offF_rt, Cw.offF_n, Cw.hdl_ret, Cw.hdl_set, Cw.hdl_pass, Cw.hev_v, Cw.hev_c, Cw.hev_fld, Cw.hev_isx, Cw.hev_tup, Cw.hev_bin, Cw.hev_cmp, Cw.hev_and, Cw.hevs_nil, Cw.hevs_cons, Cw.hBin, Cw.hCmp, Cw.hAnd, Cw.hCons2, Cw.hCons, Cw.hSet, Cw.fldK_some, Cw.bin_add, Cw.bin_sub, Cw.bin_mul, Cw.bin_mod, Cw.bin_fdiv, Cw.cmp_lt, Cw.cmp_le, Cw.cmp_gt, Cw.cmp_ge, Cw.cmo_lt, Cw.cmo_le, Cw.cmo_gt, Cw.cmo_ge, Cw.cmp_is_none, Cw.cmp_isnot_none, Cw.cmp_is_bl, Cw.cmp_isnot_bl, Cw.cmp_eq_i, Cw.cmp_ne_i, Cw.cmp_eq_b, Cw.cmp_ne_b, Cw.atD_zero, Cw.atD_one, Cw.atD_two, Cw.atD_three, Cw.ix_tup, Cw.ix_fl, Cw.ix_sc, Cw.ix_lst, Cw.ix_ref, Cw.ixO_lst, Cw.ixO_dcs, Cw.ixO_dci, Cw.bi_len_tup, Cw.bi_len_fl, Cw.bi_len_sc, Cw.bi_len_lst, Cw.bi_len_ref, Cw.lenO_lst, Cw.lenO_dct, Cw.bi_tuple_lst, Cw.bi_tuple_fl, Cw.bi_tuple_tup, Cw.bi_list_lst, Cw.bi_list_tup, Cw.bi_tuple_ref, Cw.seqO_lst, Cw.bi_int, Cw.bi_abs, Cw.bi_max, Cw.bi_min, Cw.bi_all, Cw.bi_any, Cw.bi_sum, Cw.is_int, Cw.is_bl, Cw.is_str, Cw.is_tup, Cw.is_fl, Cw.is_non, Cw.lstAt_e, Cw.src_tup, Cw.src_fl, Cw.src_sc, Cw.src_lst, Cw.items_vals, Cw.rng1, Cw.rng2, Cw.enum_lst, Cw.enum_fl, Cw.zip_tup, Cw.zip_lst, Cw.isTy, Cw.wipeD, Cw.I.isNo, Cw.bin_pow, Cw.cmp_ne_refnil, Cw.cmp_eq_refnil, Cw.nilO_ne, Cw.nilO_eq, Cw.cmp_eq_ll, Cw.cmp_ne_ll, Cw.cmp_eq_fl, Cw.cmp_ne_fl, Cw.cmp_eq_ff, Cw.cmp_ne_ff, Cw.lek_intmap, Cw.lek_ints, Cw.lek_nil, Cw.beqs_nil, Cw.mth_popO, Cw.popO_last, Cw.mth_appO, Cw.appO_lst, Cw.mth_extO, Cw.extO_lst, Cw.putK_O, Cw.putO_lst, Cw.putO_dcs, Cw.putO_dci, Cw.src_refO, Cw.srcO_lst, Cw.items_cellO, Cw.itemsO_lst, Cw.sl_sc, Cw.sl_fl, Cw.sl_lst, Cw.sl_tup, Cw.sl_refO, Cw.slO_lst, Cw.rev_lst, Cw.rev_fl, Cw.rev_tup, Cw.bin_add_tup, Cw.bin_add_lst, Cw.bin_add_fl, Cw.bin_add_ff, Cw.bin_add_lf, Cw.bin_add_ref, Cw.addO_lst, Cw.bin_mul_lst, Cw.call_t, List.getElem?_cons_zero, List.getElem?_cons_succ, List.set_cons_zero, List.set_cons_succ, List.length_cons, List.length_nil, List.nil_append, List.cons_append, List.append_nil, List.map_cons, List.map_nil, List.replicate, Nat.reduceAdd, Nat.reduceSub, Int.reducePow, List.contains_cons, List.contains_nil, Nat.reduceBEq, Nat.reduceLT, List.isEmpty_map, List.isEmpty_nil, List.isEmpty_cons, Nat.reduceEqDiff, Int.reduceNeg, Int.reduceAdd, Int.reduceSub, Int.reduceMul, Int.reduceLT, Int.reduceLE, Int.reduceEq, Int.reduceToNat, Option.isSome_some, Option.map_some, List.any_cons, List.any_nil, decide_true, decide_false, Bool.or_true, Bool.or_false, Bool.true_or, Bool.false_or, Bool.and_true, Bool.and_false, Bool.true_and, Bool.false_and, Bool.not_true, Bool.not_false, if_true, if_false, ite_true, ite_false, reduceIte, eq_self, Bool.not_eq_true, Bool.false_eq_true, decide_eq_true_eq, *])
local macro_rules | `(tactic| walk_at "sz") => `(tactic| simp -implicitDefEqProofs (disch := first | assumption | omega | exact Cw.lek_nil | exact Cw.lek_ints _ | exact Cw.lek_intmap _ _ | (simp only [List.length_map, List.length_range, Cw.line, List.length_append, List.length_cons, List.length_nil]; omega) | decide) only [Cw.R.bind_ok, Cw.R.bind_stuck, Cw.R.bind_exc, Cw.R.bind_ite, Cw.RF.of_ok, Cw.RF.of_stuck, Cw.RF.of_exc, Cw.RF.of_ite, Cw.R.noX_ok, Cw.R.ofO_some, Cw.R.ofO_map, Cw.R.ite_ok, Cw.R.ite_d, Cw.R.ite_bl, Cw.R.ite_int, Cw.seqK_nx, Cw.seqK_rt, Cw.seqK_bk, Cw.seqK_ct, Cw.seqK_exc, Cw.seqK_ite, Cw.runK_rt, Cw.runK_nx, Cw.runK_exc, Cw.runK_ite, Cw.iteK_t, Cw.iteK_f, Cw.iteK_dec, Cw.iteK_nt, Cw.iteK_ite, Cw.iteF_t, Cw.iteF_f, Cw.iteF_dec, Cw.iteF_nt, Cw.iteF_ite, Cw.chnK_t, Cw.chnK_f, Cw.chnK_dec, Cw.bndK_some, Cw.bound_t, Cw.bound_f, Cw.toDK_d, Cw.toDK_lst, Cw.toDF_d, Cw.toDF_lst, Cw.getV_some, Cw.negK_int, Cw.ntK_bl, Cw.mutK_lst, Cw.mutK_dct, Cw.mthA_t, Cw.augA_int, Cw.augK_add, Cw.augK_sub, Cw.tixK_ref, Cw.tupK, Cw.lstK, Cw.consK, Cw.consR, Cw.nxK, Cw.rtK, Cw.dropK, Cw.okB, Cw.cBin, Cw.cCmp, Cw.cChn2, Cw.cChn1, Cw.cChn, Cw.cDhn2, Cw.cDhn1, Cw.cDhn, Cw.cIfe, Cw.cIx, Cw.cSl3, Cw.cSl2, Cw.cSl1, Cw.cSl0, Cw.cSl, Cw.cCall2, Cw.cCall, Cw.cMth, Cw.cLc, Cw.cCons2, Cw.cCons, Cw.cConsR, Cw.cAnd, Cw.cOr, Cw.cZip, Cw.cTix, Cw.sSet2, Cw.sSet, Cw.sIfs, Cw.sFr, Cw.sAug, Cw.ev_v, Cw.ev_c, Cw.ev_g, Cw.ev_no, Cw.ev_tup, Cw.ev_lst, Cw.ev_dct, Cw.ev_lrg, Cw.ev_bin, Cw.ev_neg, Cw.ev_nt, Cw.ev_and, Cw.ev_or, Cw.ev_cmp, Cw.ev_chn, Cw.ev_chn3, Cw.ev_ife, Cw.ev_ix, Cw.ev_sl, Cw.ev_rev, Cw.ev_call, Cw.ev_bi, Cw.ev_isi, Cw.ev_mth, Cw.ev_mut, Cw.ev_lc, Cw.ev_rcmp, Cw.cRc, Cw.rcA, Cw.evs_nil, Cw.evs_cons, Cw.evr_nil, Cw.evr_cons, Cw.eva_one, Cw.eva_cons, Cw.evo_one, Cw.evo_cons, Cw.evi_it, Cw.evi_rng, Cw.evi_enum, Cw.evi_zip, Cw.asg_v, Cw.asg_tup, Cw.asg_ix, Cw.tgts_nil, Cw.tgts_cons, Cw.tgt_v, Cw.tgt_ix, Cw.ex_set, Cw.ex_exp, Cw.ex_ret, Cw.ex_ret0, Cw.ex_pass, Cw.ex_brk, Cw.ex_cnt, Cw.ex_aug, Cw.ex_ifs, Cw.ex_fr, Cw.exs_nil, Cw.exs_cons, Cw.ex_rs, Cw.ex_tr, Cw.excK, Cw.cat_ok, Cw.cat_exc, Cw.cat_ite, Cw.catK_t, Cw.catK_f, Cw.inI_n, Cw.inI_s, Cw.off_n, Cw.off_s, Cw.offF_nx, Cw.offF_rt, Cw.offF_n, Cw.hdl_ret, Cw.hdl_set, Cw.hdl_pass, Cw.hev_v, Cw.hev_c, Cw.hev_fld, Cw.hev_isx, Cw.hev_tup, Cw.hev_bin, Cw.hev_cmp, Cw.hev_and, Cw.hevs_nil, Cw.hevs_cons, Cw.hBin, Cw.hCmp, Cw.hAnd, Cw.hCons2, Cw.hCons, Cw.hSet, Cw.fldK_some, Cw.bin_add, Cw.bin_sub, Cw.bin_mul, Cw.bin_mod, Cw.bin_fdiv, Cw.cmp_lt, Cw.cmp_le, Cw.cmp_gt, Cw.cmp_ge, Cw.cmo_lt, Cw.cmo_le, Cw.cmo_gt, Cw.cmo_ge, Cw.cmp_is_none, Cw.cmp_isnot_none, Cw.cmp_is_bl, Cw.cmp_isnot_bl, Cw.cmp_eq_i, Cw.cmp_ne_i, Cw.cmp_eq_b, Cw.cmp_ne_b, Cw.atD_zero, Cw.atD_one, Cw.atD_two, Cw.atD_three, Cw.ix_tup, Cw.ix_fl, Cw.ix_sc, Cw.ix_lst, Cw.ix_ref, Cw.ixO_lst, Cw.ixO_dcs, Cw.ixO_dci, Cw.bi_len_tup, Cw.bi_len_fl, Cw.bi_len_sc, Cw.bi_len_lst, Cw.bi_len_ref, Cw.lenO_lst, Cw.lenO_dct, Cw.bi_tuple_lst, Cw.bi_tuple_fl, Cw.bi_tuple_tup, Cw.bi_list_lst, Cw.bi_list_tup, Cw.bi_tuple_ref, Cw.seqO_lst, Cw.bi_int, Cw.bi_abs, Cw.bi_max, Cw.bi_min, Cw.bi_all, Cw.bi_any, Cw.bi_sum, Cw.is_int, Cw.is_bl, Cw.is_str, Cw.is_tup, Cw.is_fl, Cw.is_non, Cw.lstAt_e, Cw.src_tup, Cw.src_fl, Cw.src_sc, Cw.src_lst, Cw.items_vals, Cw.rng1, Cw.rng2, Cw.enum_lst, Cw.enum_fl, Cw.zip_tup, Cw.zip_lst, Cw.isTy, Cw.wipeD, Cw.I.isNo, Cw.bin_pow, Cw.cmp_ne_refnil, Cw.cmp_eq_refnil, Cw.nilO_ne, Cw.nilO_eq, Cw.cmp_eq_ll, Cw.cmp_ne_ll, Cw.cmp_eq_fl, Cw.cmp_ne_fl, Cw.cmp_eq_ff, Cw.cmp_ne_ff, Cw.lek_intmap, Cw.lek_ints, Cw.lek_nil, Cw.beqs_nil, Cw.mth_popO, Cw.popO_last, Cw.mth_appO, Cw.appO_lst, Cw.mth_extO, Cw.extO_lst, Cw.putK_O, Cw.putO_lst, Cw.putO_dcs, Cw.putO_dci, Cw.src_refO, Cw.srcO_lst, Cw.items_cellO, Cw.itemsO_lst, Cw.sl_sc, Cw.sl_fl, Cw.sl_lst, Cw.sl_tup, Cw.sl_refO, Cw.slO_lst, Cw.rev_lst, Cw.rev_fl, Cw.rev_tup, Cw.bin_add_tup, Cw.bin_add_lst, Cw.bin_add_fl, Cw.bin_add_ff, Cw.bin_add_lf, Cw.bin_add_ref, Cw.addO_lst, Cw.bin_mul_lst, Cw.call_t, List.getElem?_cons_zero, List.getElem?_cons_succ, List.set_cons_zero, List.set_cons_succ, List.length_cons, List.length_nil, List.nil_append, List.cons_append, List.append_nil, List.map_cons, List.map_nil, List.replicate, Nat.reduceAdd, Nat.reduceSub, Int.reducePow, List.contains_cons, List.contains_nil, Nat.reduceBEq, Nat.reduceLT, List.isEmpty_map, List.isEmpty_nil, List.isEmpty_cons, Nat.reduceEqDiff, Int.reduceNeg, Int.reduceAdd, Int.reduceSub, Int.reduceMul, Int.reduceLT, Int.reduceLE, Int.reduceEq, Int.reduceToNat, Option.isSome_some, Option.map_some, List.any_cons, List.any_nil, decide_true, decide_false, Bool.or_true, Bool.or_false, Bool.true_or, Bool.false_or, Bool.and_true, Bool.and_false, Bool.true_and, Bool.false_and, Bool.not_true, Bool.not_false, if_true, if_false, ite_true, ite_false, reduceIte, eq_self, Bool.not_eq_true, Bool.false_eq_true, decide_eq_true_eq])
namespace Cw.K34
theorem sd_kks : ∀ s : St, D.kks (s.map fun (i : Nat) => D.int i) = true
  | [] => rfl
  | i :: s => by simp only [List.map_cons, D.kks, D.kk, sd_kks s, Bool.and_self]
theorem sd_deps : ∀ s : St, D.deps (s.map fun (i : Nat) => D.int i) = 0
  | [] => rfl
  | i :: s => by simp only [List.map_cons, D.deps, D.dep, sd_deps s, Nat.max_self]
theorem sd_kk (s : St) : (sd s).kk = true := by unfold sd; simp only [D.kk, sd_kks]
theorem sd_dep (s : St) : (sd s).dep = 1 := by unfold sd; simp only [D.dep, sd_deps]
theorem sd_ek (s : St) : (sd s).ek = true := by unfold D.ek; rw [sd_kk, sd_dep]; rfl
theorem sd_pure (s : St) : (sd s).pure = true := kk_pure (sd_kk s)
theorem pd_e (p : St × St) : pd p = .tup [sd p.1, sd p.2] := rfl
theorem pd_kk (p : St × St) : (pd p).kk = true := by unfold pd; simp only [D.kk, D.kks, sd_kk, Bool.and_self]
theorem pd_dep (p : St × St) : (pd p).dep = 2 := by unfold pd; simp only [D.dep, D.deps, sd_dep]; rfl
theorem pd_ek (p : St × St) : (pd p).ek = true := by unfold D.ek; rw [pd_kk, pd_dep]; rfl
theorem pd_pure (p : St × St) : (pd p).pure = true := kk_pure (pd_kk p)
theorem sd_len (s : St) (h : Hh) : biK .len [.d (sd s)] h = .ok (.d (.int s.length)) h := by
  unfold sd; rw [bi_len_tup, List.length_map]
theorem sd_inj : ∀ a b : St, (a.map fun i => D.int (i : Nat)) = (b.map fun i => D.int (i : Nat)) → a = b
  | [], [], _ => rfl
  | x :: a, y :: b, h => by
    simp only [List.map_cons, List.cons.injEq, D.int.injEq] at h
    rw [sd_inj a b h.2, show x = y by omega]
  | [], _ :: _, h => by simp at h
  | _ :: _, [], h => by simp at h
theorem pd_beq (p q : St × St) : D.beqA (pd p) (pd q) = decide (p = q) := by
  rw [Bool.eq_iff_iff, D.beqA_iff (pd_kk p), decide_eq_true_eq]
  constructor
  · intro e
    unfold pd sd at e
    simp only [D.tup.injEq, List.cons.injEq, and_true] at e
    exact Prod.ext (sd_inj _ _ e.1) (sd_inj _ _ e.2)
  · intro e; rw [e]
theorem ceq (p q : St × St) (h : Hh) : cmpK .eq (.d (pd p)) (.d (pd q)) h = .ok (.d (.bl (decide (p = q)))) h := by rw [cmp_eq_k (pd_ek _) (pd_ek _), pd_beq]
theorem cne (p q : St × St) (h : Hh) : cmpK .ne (.d (pd p)) (.d (pd q)) h = .ok (.d (.bl (!decide (p = q)))) h := by rw [cmp_ne_k (pd_ek _) (pd_ek _), pd_beq]
theorem any_sd (i : Nat) : ∀ s : St, ((D.ps (s.map fun i => D.int (i : Nat))).any fun z => PyData.eqv z (.int i)) = s.contains i
  | [] => rfl
  | x :: s => by
    simp only [List.map_cons, D.ps, D.p, List.any_cons, eqv_int, any_sd i s, List.contains_cons]
    congr 1
    rw [Bool.eq_iff_iff]
    simp
    omega
theorem has_sd (i : Nat) (s : St) (h : Hh) : cmpK .isin (.d (.int i)) (.d (sd s)) h = .ok (.d (.bl (s.contains i))) h := by
  have e1 : (RV.d (.int i)).py h = some (.int i) := rfl
  have e2 : (RV.d (sd s)).py h = some (.tuple (D.ps (s.map fun i => D.int (i : Nat)))) := ek_py (sd_ek s) h
  have e3 : SeqAt.shaped (.tuple (D.ps (s.map fun i => D.int (i : Nat)))) = true := ek_shaped (sd_ek s)
  unfold cmpK cmpOp
  simp only [e1, e2, e3, int_shaped, Bool.and_self, if_true, any_sd]
  rfl
theorem head_eq (s : St) (h : Hh) : cmpK .eq (.d (.tup (cutD (s.map fun i => D.int (i : Nat)) none (some 1)))) (.d (.tup [.int 0])) h = .ok (.d (.bl (s.head? == some 0))) h := by
  cases s with
  | nil => rw [show cutD (([] : St).map fun i => D.int (i : Nat)) none (some 1) = [] from rfl, cmp_eq_k (by decide) (by decide)]; rfl
  | cons x s =>
    have e : cutD ((x :: s).map fun i => D.int (i : Nat)) none (some 1) = [.int x] := by
      unfold cutD
      have : HT.sIx (((x :: s).map fun i => D.int (i : Nat)).length) (((x :: s).map fun i => D.int (i : Nat)).length) (some 1) = 1 := by
        show HT.sIx _ _ (some ((1 : Nat) : Int)) = 1
        rw [HT.sIx_nat]; simp
      rw [this]
      rfl
    have ek1 : (D.tup [.int (x : Nat)]).ek = true := sd_ek [x]
    rw [e, cmp_eq_k ek1 (by decide)]
    have : D.beqA (.tup [.int x]) (.tup [.int 0]) = ((x :: s).head? == some 0) := by
      rw [Bool.eq_iff_iff]
      simp [D.beqA, D.beqsA]
    rw [this]
/-- what is known of a set of places below n -/
structure SetF (n : Nat) (s : St) : Prop where
  is : Pc tb 5 2 [.int n, sd s] (.d (.bl true))
  ot : Pc tb 5 4 [.int n, sd s] (.d (sd (comp n s)))
  lf : Pc tb 5 15 [.int n, sd s] (.d (sd (comp n s)))
  cc : comp n (comp n s) = s
  z : s.contains 0 = !(comp n s).contains 0
  hd : (s.head? == some 0) = s.contains 0
  len : s.length + (comp n s).length = n
theorem pure3 (n : Int) (a b : St) : D.pures [.int n, sd a, sd b] = true := by simp only [D.pures, D.pure, sd_pure, Bool.and_self]
theorem pure2 (n : Int) (p : St × St) : D.pures [.int n, pd p] = true := by simp only [D.pures, D.pure, pd_pure, Bool.and_self]
section
variable {n : Nat} {r c : St}
theorem isprod (hr : SetF n r) (hc : SetF n c) (l : r.length = c.length) : Pc tb 7 6 [.int n, pd (r, c)] (.d (.bl (r.contains 0))) := by
  have c1 := (hr.is.more (n := 6) (by omega)).eq
  have c2 := (hc.is.more (n := 6) (by omega)).eq
  have c3 := head_eq r
  rw [hr.hd] at c3
  have l1 := sd_len r
  have l2 := sd_len c
  rw [← l] at l2
  have two : ((2 : Nat) : Int) = 2 := rfl
  have sl0 : ∀ h, slK (.d (sd r)) none (some 1) h = .ok (.d (.tup (cutD (r.map fun i => D.int (i : Nat)) none (some 1)))) h := fun h => rfl
  refine Pc.of (h' := []) (rv := .d (.bl (r.contains 0))) (pure2 _ _) ?_ rfl
  rw [run_def (fn := f6) rfl rfl]; unfold f6
  simp only [pd_e]
  clear hr hc l
  walk_at "sy"
/-- what product_of hands back -/
def tld (n : Nat) (p : St × St) : St × St := if p.1.contains 0 = true then p else (comp n p.1, comp n p.2)
theorem told (hr : SetF n r) (hc : SetF n c) : Pc tb 7 8 [.int n, sd r, sd c] (.d (pd (tld n (r, c)))) := by
  have c1 := (hr.ot.more (n := 6) (by omega)).eq
  have c2 := (hc.ot.more (n := 6) (by omega)).eq
  have c3 := has_sd 0 r
  have z0 : ((0 : Nat) : Int) = 0 := rfl
  rw [z0] at c3
  refine Pc.of (h' := []) (rv := .d (pd (tld n (r, c)))) (pure3 _ _ _) ?_ (by unfold unbox; have := pd_pure (tld n (r, c)); unfold pd at *; simp only [this, if_true])
  rw [run_def (fn := f8) rfl rfl]; unfold f8
  unfold tld
  by_cases q : r.contains 0 = true
  · rw [if_pos q]
    rw [q] at c3
    simp only [pd_e]
    clear hr hc z0 q
    walk_at "sy"
  · have q' : r.contains 0 = false := by simpa using q
    rw [if_neg q]
    rw [q'] at c3
    simp only [pd_e]
    clear hr hc z0 q q'
    walk_at "sy"
theorem prodof (hk : Pc tb 5 5 [.int n] (.d .non)) (hr : SetF n r) (hc : SetF n c) (l : r.length = c.length) : Pc tb 8 9 [.int n, sd r, sd c] (.d (pd (tld n (r, c)))) := by
  have c0 := (hk.more (n := 7) (by omega)).eq
  have c1 := (hr.is.more (n := 7) (by omega)).eq
  have c2 := (hc.is.more (n := 7) (by omega)).eq
  have c3 := (told hr hc).eq
  have l1 := sd_len r
  have l2 := sd_len c
  rw [← l] at l2
  refine Pc.of (h' := []) (rv := .d (pd (tld n (r, c)))) (pure3 _ _ _) ?_ (by unfold unbox; have := pd_pure (tld n (r, c)); unfold pd at *; simp only [this, if_true])
  rw [run_def (fn := f9) rfl rfl]; unfold f9
  clear hk hr hc l
  walk_at "sy"
/-- of unlike lengths: BadSets -/
theorem refused {k : Nat} (hk : Pc tb 5 5 [.int n] (.d .non)) (hr : SetF n r) (hc : SetF n c) (l : r.length ≠ c.length) (h6 : 5 ≤ k) (h' : Hh) : callOp (runB tb (k + 1)) false 9 [.int n, sd r, sd c] h' = .exc ⟨1, [pd (r, c)]⟩ h' := by
  have c0 := (hk.more h6).eq
  have c1 := (hr.is.more h6).eq
  have c2 := (hc.is.more h6).eq
  have l1 := sd_len r
  have l2 := sd_len c
  have l3 : ¬ ((r.length : Int) = (c.length : Int)) := by omega
  have e : run tb (k + 1) 9 [.int n, sd r, sd c] [] = .exc ⟨1, [pd (r, c)]⟩ [] := by
    rw [run_def (fn := f9) rfl rfl]; unfold f9
    simp only [pd_e]
    clear hk hr hc l
    walk_at "sy"
  unfold callOp
  have hp := pure3 n r c
  simp only [hp, if_true, Bool.false_eq_true, if_false]
  show (match run tb (k + 1) 9 [.int n, sd r, sd c] [] with | .ok rv h1 => _ | .exc x _ => _ | .stuck => _) = _
  rw [e]
  have hq : D.pures [pd (r, c)] = true := by simp only [D.pures, pd_pure, Bool.and_self]
  show (if D.pures [pd (r, c)] = true then R.exc _ h' else R.stuck) = _
  rw [if_pos hq]
theorem other (hk : Pc tb 5 5 [.int n] (.d .non)) (hr : SetF n r) (hc : SetF n c) (l : r.length = c.length) (z : r.contains 0 = true) : Pc tb 8 10 [.int n, pd (r, c)] (.d (pd (comp n r, comp n c))) := by
  have c0 := (hk.more (n := 7) (by omega)).eq
  have c1 := (hr.ot.more (n := 7) (by omega)).eq
  have c2 := (hc.ot.more (n := 7) (by omega)).eq
  have c3 := isprod hr hc l
  rw [z] at c3
  have c3 := c3.eq
  refine Pc.of (h' := []) (rv := .d (pd (comp n r, comp n c))) (pure2 _ _) ?_ (by unfold unbox; have := pd_pure (comp n r, comp n c); unfold pd at *; simp only [this, if_true])
  rw [run_def (fn := f10) rfl rfl]; unfold f10
  simp only [pd_e] at c3 ⊢
  clear hk hr hc l z
  walk_at "sy"
end
end Cw.K34
end

section
set_option Elab.async false
set_option linter.all false
set_option maxRecDepth 100000
set_option maxHeartbeats 800000
/-! K34v: a pair of sets is right. -/
open PySem PySem.Spec PyProof.Rows L2 Cw
local macro_rules | `(tactic| walk_at "sy") => `(tactic| simp -implicitDefEqProofs (disch := first | assumption | omega | exact Cw.lek_nil | exact Cw.lek_ints _ | exact Cw.lek_intmap _ _ | (simp only [List.length_map, List.length_range, Cw.line, List.length_append, List.length_cons, List.length_nil]; omega) | decide) only [Cw.R.bind_ok, Cw.R.bind_stuck, Cw.R.bind_exc, Cw.R.bind_ite, Cw.RF.of_ok, Cw.RF.of_stuck, Cw.RF.of_exc, Cw.RF.of_ite, Cw.R.noX_ok, Cw.R.ofO_some, Cw.R.ofO_map, Cw.R.ite_ok, Cw.R.ite_d, Cw.R.ite_bl, Cw.R.ite_int, Cw.seqK_nx, Cw.seqK_rt, Cw.seqK_bk, Cw.seqK_ct, Cw.seqK_exc, Cw.seqK_ite, Cw.runK_rt, Cw.runK_nx, Cw.runK_exc, Cw.runK_ite, Cw.iteK_t, Cw.iteK_f, Cw.iteK_dec, Cw.iteK_nt, Cw.iteK_ite, Cw.iteF_t, Cw.iteF_f, Cw.iteF_dec, Cw.iteF_nt, Cw.iteF_ite, Cw.chnK_t, Cw.chnK_f, Cw.chnK_dec, Cw.bndK_some, Cw.bound_t, Cw.bound_f, Cw.toDK_d, Cw.toDK_lst, Cw.toDF_d, Cw.toDF_lst, Cw.getV_some, Cw.negK_int, Cw.ntK_bl, Cw.mutK_lst, Cw.mutK_dct, Cw.mthA_t, Cw.augA_int, Cw.augK_add, Cw.augK_sub, Cw.tixK_ref, Cw.tupK, Cw.lstK, Cw.consK, Cw.consR, Cw.nxK, Cw.rtK, Cw.dropK, Cw.okB, Cw.cBin, Cw.cCmp, Cw.cChn2, Cw.cChn1, Cw.cChn, Cw.cDhn2, Cw.cDhn1, Cw.cDhn, Cw.cIfe, Cw.cIx, Cw.cSl3, Cw.cSl2, Cw.cSl1, Cw.cSl0, Cw.cSl, Cw.cCall2, Cw.cCall, Cw.cMth, Cw.cLc, Cw.cCons2, Cw.cCons, Cw.cConsR, Cw.cAnd, Cw.cOr, Cw.cZip, Cw.cTix, Cw.sSet2, Cw.sSet, Cw.sIfs, Cw.sFr, Cw.sAug, Cw.ev_v, Cw.ev_c, Cw.ev_g, Cw.ev_no, Cw.ev_tup, Cw.ev_lst, Cw.ev_dct, Cw.ev_lrg, Cw.ev_bin, Cw.ev_neg, Cw.ev_nt, Cw.ev_and, Cw.ev_or, Cw.ev_cmp, Cw.ev_chn, Cw.ev_chn3, Cw.ev_ife, Cw.ev_ix, Cw.ev_sl, Cw.ev_rev, Cw.ev_call, Cw.ev_bi, Cw.ev_isi, Cw.ev_mth, Cw.ev_mut, Cw.ev_lc, Cw.ev_rcmp, Cw.cRc, Cw.rcA, Cw.evs_nil, Cw.evs_cons, Cw.evr_nil, Cw.evr_cons, Cw.eva_one, Cw.eva_cons, Cw.evo_one, Cw.evo_cons, Cw.evi_it, Cw.evi_rng, Cw.evi_enum, Cw.evi_zip, Cw.asg_v, Cw.asg_tup, Cw.asg_ix, Cw.tgts_nil, Cw.tgts_cons, Cw.tgt_v, Cw.tgt_ix, Cw.ex_set, Cw.ex_exp, Cw.ex_ret, Cw.ex_ret0, Cw.ex_pass, Cw.ex_brk, Cw.ex_cnt, Cw.ex_aug, Cw.ex_ifs, Cw.ex_fr, Cw.exs_nil, Cw.exs_cons, Cw.ex_rs, Cw.ex_tr, Cw.excK, Cw.cat_ok, Cw.cat_exc, Cw.cat_ite, Cw.catK_t, Cw.catK_f, Cw.inI_n, Cw.inI_s, Cw.off_n, Cw.off_s, Cw.offF_nx, Cw.offF_rt, Cw.offF_n, Cw.hdl_ret, Cw.hdl_set, Cw.hdl_pass, Cw.hev_v, Cw.hev_c, Cw.hev_fld, Cw.hev_isx, Cw.hev_tup, Cw.hev_bin, Cw.hev_cmp, Cw.hev_and, Cw.hevs_nil, Cw.hevs_cons, Cw.hBin, Cw.hCmp, Cw.hAnd, Cw.hCons2, Cw.hCons, Cw.hSet, Cw.fldK_some, Cw.bin_add, Cw.bin_sub, Cw.bin_mul, Cw.bin_mod, Cw.bin_fdiv, Cw.cmp_lt, Cw.cmp_le, Cw.cmp_gt, Cw.cmp_ge, Cw.cmo_lt, Cw.cmo_le, Cw.cmo_gt, Cw.cmo_ge, Cw.cmp_is_none, Cw.cmp_isnot_none, Cw.cmp_is_bl, Cw.cmp_isnot_bl, Cw.cmp_eq_i, Cw.cmp_ne_i, Cw.cmp_eq_b, Cw.cmp_ne_b, Cw.atD_zero, Cw.atD_one, Cw.atD_two, Cw.atD_three, Cw.ix_tup, Cw.ix_fl, Cw.ix_sc, Cw.ix_lst, Cw.ix_ref, Cw.ixO_lst, Cw.ixO_dcs, Cw.ixO_dci, Cw.bi_len_tup, Cw.bi_len_fl, Cw.bi_len_sc, Cw.bi_len_lst, Cw.bi_len_ref, Cw.lenO_lst, Cw.lenO_dct, Cw.bi_tuple_lst, Cw.bi_tuple_fl, Cw.bi_tuple_tup, Cw.bi_list_lst, Cw.bi_list_tup, Cw.bi_tuple_ref, Cw.seqO_lst, Cw.bi_int, Cw.bi_abs, Cw.bi_max, Cw.bi_min, Cw.bi_all, Cw.bi_any, Cw.bi_sum, Cw.is_int, Cw.is_bl, Cw.is_str, Cw.is_tup, Cw.is_fl, Cw.is_non, Cw.lstAt_e, Cw.src_tup, Cw.src_fl, Cw.src_sc, Cw.src_lst, Cw.items_vals, Cw.rng1, Cw.rng2, Cw.enum_lst, Cw.enum_fl, Cw.zip_tup, Cw.zip_lst, Cw.isTy, Cw.wipeD, Cw.I.isNo, Cw.bin_pow, Cw.cmp_ne_refnil, Cw.cmp_eq_refnil, Cw.nilO_ne, Cw.nilO_eq, Cw.cmp_eq_ll, Cw.cmp_ne_ll, Cw.cmp_eq_fl, Cw.cmp_ne_fl, Cw.cmp_eq_ff, Cw.cmp_ne_ff, Cw.lek_intmap, Cw.lek_ints, Cw.lek_nil, Cw.beqs_nil, Cw.mth_popO, Cw.popO_last, Cw.mth_appO, Cw.appO_lst, Cw.mth_extO, Cw.extO_lst, Cw.putK_O, Cw.putO_lst, Cw.putO_dcs, Cw.putO_dci, Cw.src_refO, Cw.srcO_lst, Cw.items_cellO, Cw.itemsO_lst, Cw.sl_sc, Cw.sl_fl, Cw.sl_lst, Cw.sl_tup, Cw.sl_refO, Cw.slO_lst, Cw.rev_lst, Cw.rev_fl, Cw.rev_tup, Cw.bin_add_tup, Cw.bin_add_lst, Cw.bin_add_fl, Cw.bin_add_ff, Cw.bin_add_lf, Cw.bin_add_ref, Cw.addO_lst, Cw.bin_mul_lst, Cw.call_t, List.getElem?_cons_zero, List.getElem?_cons_succ, List.set_cons_zero, List.set_cons_succ, List.length_cons, List.length_nil, List.nil_append, List.cons_append, List.append_nil, List.map_cons, List.map_nil, List.replicate, Nat.reduceAdd, Nat.reduceSub, Int.reducePow, List.contains_cons, List.contains_nil, Nat.reduceBEq, Nat.reduceLT, List.isEmpty_map, List.isEmpty_nil, List.isEmpty_cons, Nat.reduceEqDiff, Int.reduceNeg, Int.reduceAdd, Int.reduceSub, Int.reduceMul, Int.reduceLT, Int.reduceLE, Int.reduceEq, Int.reduceToNat, Option.isSome_some, Option.map_some, List.any_cons, List.any_nil, decide_true, decide_false, Bool.or_true, Bool.or_false, Bool.true_or, Bool.false_or, Bool.and_true, Bool.and_false, Bool.true_and, Bool.false_and, Bool.not_true, Bool.not_false, if_true, if_false, ite_true, ite_false, reduceIte, eq_self, Bool.not_eq_true, Bool.false_eq_true, decide_eq_true_eq, *])
local macro_rules | `(tactic| walk_at "sz") => `(tactic| simp -implicitDefEqProofs (disch := first | assumption | omega | exact Cw.lek_nil | exact Cw.lek_ints _ | exact Cw.lek_intmap _ _ | (simp only [List.length_map, List.length_range, Cw.line, List.length_append, List.length_cons, List.length_nil]; omega) | decide) only [Cw.R.bind_ok, Cw.R.bind_stuck, Cw.R.bind_exc, Cw.R.bind_ite, Cw.RF.of_ok, Cw.RF.of_stuck, Cw.RF.of_exc, Cw.RF.of_ite, Cw.R.noX_ok, Cw.R.ofO_some, Cw.R.ofO_map, Cw.R.ite_ok, Cw.R.ite_d, Cw.R.ite_bl, Cw.R.ite_int, Cw.seqK_nx, Cw.seqK_rt, Cw.seqK_bk, Cw.seqK_ct, Cw.seqK_exc, Cw.seqK_ite, Cw.runK_rt, Cw.runK_nx, Cw.runK_exc, Cw.runK_ite, Cw.iteK_t, Cw.iteK_f, Cw.iteK_dec, Cw.iteK_nt, Cw.iteK_ite, Cw.iteF_t, Cw.iteF_f, Cw.iteF_dec, Cw.iteF_nt, Cw.iteF_ite, Cw.chnK_t, Cw.chnK_f, Cw.chnK_dec, Cw.bndK_some, Cw.bound_t, Cw.bound_f, Cw.toDK_d, Cw.toDK_lst, Cw.toDF_d, Cw.toDF_lst, Cw.getV_some, Cw.negK_int, Cw.ntK_bl, Cw.mutK_lst, Cw.mutK_dct, Cw.mthA_t, Cw.augA_int, Cw.augK_add, Cw.augK_sub, Cw.tixK_ref, Cw.tupK, Cw.lstK, Cw.consK, Cw.consR, Cw.nxK, Cw.rtK, Cw.dropK, Cw.okB, Cw.cBin, Cw.cCmp, Cw.cChn2, Cw.cChn1, Cw.cChn, Cw.cDhn2, Cw.cDhn1, Cw.cDhn, Cw.cIfe, Cw.cIx, Cw.cSl3, Cw.cSl2, Cw.cSl1, Cw.cSl0, Cw.cSl, Cw.cCall2, Cw.cCall, Cw.cMth, Cw.cLc, Cw.cCons2, Cw.cCons, Cw.cConsR, Cw.cAnd, Cw.cOr, Cw.cZip, Cw.cTix, Cw.sSet2, Cw.sSet, Cw.sIfs, Cw.sFr, Cw.sAug, Cw.ev_v, Cw.ev_c, Cw.ev_g, Cw.ev_no, Cw.ev_tup, Cw.ev_lst, Cw.ev_dct, Cw.ev_lrg, Cw.ev_bin, Cw.ev_neg, Cw.ev_nt, Cw.ev_and, Cw.ev_or, Cw.ev_cmp, Cw.ev_chn, Cw.ev_chn3, Cw.ev_ife, Cw.ev_ix, Cw.ev_sl, Cw.ev_rev, Cw.ev_call, Cw.ev_bi, Cw.ev_isi, Cw.ev_mth, Cw.ev_mut, Cw.ev_lc, Cw.ev_rcmp, Cw.cRc, Cw.rcA, Cw.evs_nil, Cw.evs_cons, Cw.evr_nil, Cw.evr_cons, Cw.eva_one, Cw.eva_cons, Cw.evo_one, Cw.evo_cons, Cw.evi_it, Cw.evi_rng, Cw.evi_enum, Cw.evi_zip, Cw.asg_v, Cw.asg_tup, Cw.asg_ix, Cw.tgts_nil, Cw.tgts_cons, Cw.tgt_v, Cw.tgt_ix, Cw.ex_set, Cw.ex_exp, Cw.ex_ret, Cw.ex_ret0, Cw.ex_pass, Cw.ex_brk, Cw.ex_cnt, Cw.ex_aug, Cw.ex_ifs, Cw.ex_fr, Cw.exs_nil, Cw.exs_cons, Cw.ex_rs, Cw.ex_tr, Cw.excK, Cw.cat_ok, Cw.cat_exc, Cw.cat_ite, Cw.catK_t, Cw.catK_f, Cw.inI_n, Cw.inI_s, Cw.off_n, Cw.off_s, Cw.offF_nx, Cw.offF_rt, Cw.offF_n, Cw.hdl_ret, Cw.hdl_set, Cw.hdl_pass, Cw.hev_v, Cw.hev_c, Cw.hev_fld, Cw.hev_isx, Cw.hev_tup, Cw.hev_bin, Cw.hev_cmp, Cw.hev_and, Cw.hevs_nil, Cw.hevs_cons, Cw.hBin, Cw.hCmp, Cw.hAnd, Cw.hCons2, Cw.hCons, Cw.hSet, Cw.fldK_some, Cw.bin_add, Cw.bin_sub, Cw.bin_mul, Cw.bin_mod, Cw.bin_fdiv, Cw.cmp_lt, Cw.cmp_le, Cw.cmp_gt, Cw.cmp_ge, Cw.cmo_lt, Cw.cmo_le, Cw.cmo_gt, Cw.cmo_ge, Cw.cmp_is_none, Cw.cmp_isnot_none, Cw.cmp_is_bl, Cw.cmp_isnot_bl, Cw.cmp_eq_i, Cw.cmp_ne_i, Cw.cmp_eq_b, Cw.cmp_ne_b, Cw.atD_zero, Cw.atD_one, Cw.atD_two, Cw.atD_three, Cw.ix_tup, Cw.ix_fl, Cw.ix_sc, Cw.ix_lst, Cw.ix_ref, Cw.ixO_lst, Cw.ixO_dcs, Cw.ixO_dci, Cw.bi_len_tup, Cw.bi_len_fl, Cw.bi_len_sc, Cw.bi_len_lst, Cw.bi_len_ref, Cw.lenO_lst, Cw.lenO_dct, Cw.bi_tuple_lst, Cw.bi_tuple_fl, Cw.bi_tuple_tup, Cw.bi_list_lst, Cw.bi_list_tup, Cw.bi_tuple_ref, Cw.seqO_lst, Cw.bi_int, Cw.bi_abs, Cw.bi_max, Cw.bi_min, Cw.bi_all, Cw.bi_any, Cw.bi_sum, Cw.is_int, Cw.is_bl, Cw.is_str, Cw.is_tup, Cw.is_fl, Cw.is_non, Cw.lstAt_e, Cw.src_tup, Cw.src_fl, Cw.src_sc, Cw.src_lst, Cw.items_vals, Cw.rng1, Cw.rng2, Cw.enum_lst, Cw.enum_fl, Cw.zip_tup, Cw.zip_lst, Cw.isTy, Cw.wipeD, Cw.I.isNo, Cw.bin_pow, Cw.cmp_ne_refnil, Cw.cmp_eq_refnil, Cw.nilO_ne, Cw.nilO_eq, Cw.cmp_eq_ll, Cw.cmp_ne_ll, Cw.cmp_eq_fl, Cw.cmp_ne_fl, Cw.cmp_eq_ff, Cw.cmp_ne_ff, Cw.lek_intmap, Cw.lek_ints, Cw.lek_nil, Cw.beqs_nil, Cw.mth_popO, Cw.popO_last, Cw.mth_appO, Cw.appO_lst, Cw.mth_extO, Cw.extO_lst, Cw.putK_O, Cw.putO_lst, Cw.putO_dcs, Cw.putO_dci, Cw.src_refO, Cw.srcO_lst, Cw.items_cellO, Cw.itemsO_lst, Cw.sl_sc, Cw.sl_fl, Cw.sl_lst, Cw.sl_tup, Cw.sl_refO, Cw.slO_lst, Cw.rev_lst, Cw.rev_fl, Cw.rev_tup, Cw.bin_add_tup, Cw.bin_add_lst, Cw.bin_add_fl, Cw.bin_add_ff, Cw.bin_add_lf, Cw.bin_add_ref, Cw.addO_lst, Cw.bin_mul_lst, Cw.call_t, List.getElem?_cons_zero, List.getElem?_cons_succ, List.set_cons_zero, List.set_cons_succ, List.length_cons, List.length_nil, List.nil_append, List.cons_append, List.append_nil, List.map_cons, List.map_nil, List.replicate, Nat.reduceAdd, Nat.reduceSub, Int.reducePow, List.contains_cons, List.contains_nil, Nat.reduceBEq, Nat.reduceLT, List.isEmpty_map, List.isEmpty_nil, List.isEmpty_cons, Nat.reduceEqDiff, Int.reduceNeg, Int.reduceAdd, Int.reduceSub, Int.reduceMul, Int.reduceLT, Int.reduceLE, Int.reduceEq, Int.reduceToNat, Option.isSome_some, Option.map_some, List.any_cons, List.any_nil, decide_true, decide_false, Bool.or_true, Bool.or_false, Bool.true_or, Bool.false_or, Bool.and_true, Bool.and_false, Bool.true_and, Bool.false_and, Bool.not_true, Bool.not_false, if_true, if_false, ite_true, ite_false, reduceIte, eq_self, Bool.not_eq_true, Bool.false_eq_true, decide_eq_true_eq])
namespace Cw.K34
theorem eq_told (p : St × St) (h : Hh) : cmpK .eq (.d (.tup [pd p, .bl true])) (.d (.tup [pd p, .bl true])) h = .ok (.d (.bl true)) h := by
  have hp : (D.tup [pd p, .bl true]).pure = true := by simp only [D.pure, D.pures, pd_pure, Bool.and_self]
  have e : (RV.d (.tup [pd p, .bl true])).py h = some (.tuple [(pd p).p, .bool true]) := if_pos hp
  have s : SeqAt.shaped (.tuple [(pd p).p, .bool true]) = true := by
    unfold SeqAt.shaped
    have h1 := kk_lay (pd_kk p)
    have h2 : (pd p).p.depth = 2 := by rw [D.dep_p, pd_dep]
    simp only [PyData.canLay0, PyData.canLayAll0, PyData.depth, PyData.depthAll, h1, h2, Bool.and_self, Bool.true_and]
    decide
  have q : PyData.eqv (.tuple [(pd p).p, .bool true]) (.tuple [(pd p).p, .bool true]) = true := by
    have h1 : PyData.eqv (pd p).p (pd p).p = true := by rw [kk_eqv (pd_kk p) (pd_kk p), D.beqA_refl (pd_kk p)]
    simp only [PyData.eqv, PyData.eqvAll, h1, eqv_bl]
    decide
  unfold cmpK cmpOp
  simp only [e, s, q, Bool.and_self, if_true]
  rfl
section
variable {n : Nat} {r c : St}
theorem isref (hk : Pc tb 5 5 [.int n] (.d .non)) (hr : SetF n r) (hc : SetF n c) (l : r.length ≠ c.length) : Pc tb 9 17 [.int n, sd r, sd c] (.d (.bl true)) := by
  have c1 := refused hk hr hc l (k := 7) (by omega)
  have c2 := eq_told (r, c)
  refine Pc.of (h' := []) (rv := .d (.bl true)) (pure3 _ _ _) ?_ rfl
  rw [run_def (fn := f17) rfl rfl]; unfold f17
  simp only [pd_e] at c1 c2
  clear hk hr hc l
  walk_at "sy"
theorem comp_ne (hr : SetF n r) : ((comp n r, comp n c) = (r, c)) = False := by
  refine eq_false fun e => ?_
  have e1 : comp n r = r := congrArg Prod.fst e
  have z := hr.z
  rw [e1] at z
  cases q : r.contains 0 <;> rw [q] at z <;> cases z
theorem pright (hk : Pc tb 5 5 [.int n] (.d .non)) (hr : SetF n r) (hc : SetF n c) (hr' : SetF n (comp n r)) (hc' : SetF n (comp n c)) : Pc tb 10 18 [.int n, sd r, sd c] (.d (.bl true)) := by
  by_cases l : r.length = c.length
  · have l' : (comp n r).length = (comp n c).length := by have := hr.len; have := hc.len; omega
    have l1 := sd_len r
    have l2 := sd_len c
    rw [← l] at l2
    have f1 := (hr.lf.more (n := 9) (by omega)).eq
    have f2 := (hc.lf.more (n := 9) (by omega)).eq
    have p1 := ((prodof hk hr hc l).more (n := 9) (by omega)).eq
    have p2 := ((prodof hk hr' hc' l').more (n := 9) (by omega)).eq
    have i1 := ((isprod hr hc l).more (n := 9) (by omega)).eq
    have i2 := ((isprod hr' hc' l').more (n := 9) (by omega)).eq
    have hs := has_sd 0 r
    have z0 : ((0 : Nat) : Int) = 0 := rfl
    rw [z0] at hs
    have pb : ∀ (b : Bool) (h : Hh), (RV.d (.bl b)).pd h = some (.bl b) := fun _ _ => rfl
    have rb : ∀ b : Bool, rpOk (.bl b) = true := fun b => by cases b <;> decide
    have rc : ∀ (b : Bool) (h : Hh), rcB true (.bl b) (.d (.bl b)) h = .ok (.d (.bl false)) h := fun b h => by cases b <;> rfl
    refine Pc.of (h' := []) (rv := .d (.bl true)) (pure3 _ _ _) ?_ rfl
    rw [run_def (fn := f18) rfl rfl]; unfold f18
    have z := hr.z
    by_cases q : r.contains 0 = true
    · rw [q] at z
      have q2 : (comp n r).contains 0 = false := by simpa using z.symm
      have o := ((other hk hr hc l q).more (n := 9) (by omega)).eq
      rw [q] at i1 hs
      rw [q2] at i2
      have e1 : tld n (r, c) = (r, c) := if_pos q
      have e2 : tld n (comp n r, comp n c) = (r, c) := by
        show (if (comp n r).contains 0 = true then _ else _) = _
        rw [q2, if_neg (by decide), hr.cc, hc.cc]
      rw [e1] at p1
      rw [e2] at p2
      have n1 := cne (r, c) (r, c)
      have n2 := ceq (r, c) (r, c)
      have n3 := ceq (comp n r, comp n c) (comp n r, comp n c)
      simp only [pd_e] at *
      clear hk hr hc hr' hc' l l' z q q2 e1 e2 z0
      walk_at "sy"
    · have q : r.contains 0 = false := by simpa using q
      rw [q] at z
      have q2 : (comp n r).contains 0 = true := by simpa using z.symm
      have o := ((other hk hr' hc' l' q2).more (n := 9) (by omega)).eq
      rw [hr.cc, hc.cc] at o
      rw [q] at i1 hs
      rw [q2] at i2
      have e1 : tld n (r, c) = (comp n r, comp n c) := by
        show (if r.contains 0 = true then _ else _) = _
        rw [q, if_neg (by decide)]
      have e2 : tld n (comp n r, comp n c) = (comp n r, comp n c) := if_pos q2
      rw [e1] at p1
      rw [e2] at p2
      have n1 := cne (comp n r, comp n c) (comp n r, comp n c)
      have n2 := ceq (comp n r, comp n c) (r, c)
      rw [decide_eq_false (by rw [comp_ne hr]; exact id)] at n2
      have n3 := ceq (r, c) (r, c)
      simp only [pd_e] at *
      clear hk hr hc hr' hc' l l' z q q2 e1 e2 z0
      walk_at "sy"
  · have l1 := sd_len r
    have l2 := sd_len c
    have l3 : ¬ ((r.length : Int) = (c.length : Int)) := by omega
    have c1 := (isref hk hr hc l).eq
    refine Pc.of (h' := []) (rv := .d (.bl true)) (pure3 _ _ _) ?_ rfl
    rw [run_def (fn := f18) rfl rfl]; unfold f18
    clear hk hr hc hr' hc' l
    walk_at "sy"
end
end Cw.K34
end

section
set_option Elab.async false
set_option linter.all false
set_option maxRecDepth 100000
set_option maxHeartbeats 800000
/-! K34x: the pairs that the law looks at. -/
open PySem PySem.Spec PyProof.Rows L2 Cw
local macro_rules | `(tactic| walk_at "sy") => `(tactic| simp -implicitDefEqProofs (disch := first | assumption | omega | exact Cw.lek_nil | exact Cw.lek_ints _ | exact Cw.lek_intmap _ _ | (simp only [List.length_map, List.length_range, Cw.line, List.length_append, List.length_cons, List.length_nil]; omega) | decide) only [Cw.R.bind_ok, Cw.R.bind_stuck, Cw.R.bind_exc, Cw.R.bind_ite, Cw.RF.of_ok, Cw.RF.of_stuck, Cw.RF.of_exc, Cw.RF.of_ite, Cw.R.noX_ok, Cw.R.ofO_some, Cw.R.ofO_map, Cw.R.ite_ok, Cw.R.ite_d, Cw.R.ite_bl, Cw.R.ite_int, Cw.seqK_nx, Cw.seqK_rt, Cw.seqK_bk, Cw.seqK_ct, Cw.seqK_exc, Cw.seqK_ite, Cw.runK_rt, Cw.runK_nx, Cw.runK_exc, Cw.runK_ite, Cw.iteK_t, Cw.iteK_f, Cw.iteK_dec, Cw.iteK_nt, Cw.iteK_ite, Cw.iteF_t, Cw.iteF_f, Cw.iteF_dec, Cw.iteF_nt, Cw.iteF_ite, Cw.chnK_t, Cw.chnK_f, Cw.chnK_dec, Cw.bndK_some, Cw.bound_t, Cw.bound_f, Cw.toDK_d, Cw.toDK_lst, Cw.toDF_d, Cw.toDF_lst, Cw.getV_some, Cw.negK_int, Cw.ntK_bl, Cw.mutK_lst, Cw.mutK_dct, Cw.mthA_t, Cw.augA_int, Cw.augK_add, Cw.augK_sub, Cw.tixK_ref, Cw.tupK, Cw.lstK, Cw.consK, Cw.consR, Cw.nxK, Cw.rtK, Cw.dropK, Cw.okB, Cw.cBin, Cw.cCmp, Cw.cChn2, Cw.cChn1, Cw.cChn, Cw.cDhn2, Cw.cDhn1, Cw.cDhn, Cw.cIfe, Cw.cIx, Cw.cSl3, Cw.cSl2, Cw.cSl1, Cw.cSl0, Cw.cSl, Cw.cCall2, Cw.cCall, Cw.cMth, Cw.cLc, Cw.cCons2, Cw.cCons, Cw.cConsR, Cw.cAnd, Cw.cOr, Cw.cZip, Cw.cTix, Cw.sSet2, Cw.sSet, Cw.sIfs, Cw.sFr, Cw.sAug, Cw.ev_v, Cw.ev_c, Cw.ev_g, Cw.ev_no, Cw.ev_tup, Cw.ev_lst, Cw.ev_dct, Cw.ev_lrg, Cw.ev_bin, Cw.ev_neg, Cw.ev_nt, Cw.ev_and, Cw.ev_or, Cw.ev_cmp, Cw.ev_chn, Cw.ev_chn3, Cw.ev_ife, Cw.ev_ix, Cw.ev_sl, Cw.ev_rev, Cw.ev_call, Cw.ev_bi, Cw.ev_isi, Cw.ev_mth, Cw.ev_mut, Cw.ev_lc, Cw.ev_rcmp, Cw.cRc, Cw.rcA, Cw.evs_nil, Cw.evs_cons, Cw.evr_nil, Cw.evr_cons, Cw.eva_one, Cw.eva_cons, Cw.evo_one, Cw.evo_cons, Cw.evi_it, Cw.evi_rng, Cw.evi_enum, Cw.evi_zip, Cw.asg_v, Cw.asg_tup, Cw.asg_ix, Cw.tgts_nil, Cw.tgts_cons, Cw.tgt_v, Cw.tgt_ix, Cw.ex_set, Cw.ex_exp, Cw.ex_ret, Cw.ex_ret0, Cw.ex_pass, Cw.ex_brk, Cw.ex_cnt, Cw.ex_aug, Cw.ex_ifs, Cw.ex_fr, Cw.exs_nil, Cw.exs_cons, Cw.ex_rs, Cw.ex_tr, Cw.excK, Cw.cat_ok, Cw.cat_exc, Cw.cat_ite, Cw.catK_t, Cw.catK_f, Cw.inI_n, Cw.inI_s, Cw.off_n, Cw.off_s, Cw.offF_nx, Cw.offF_rt, Cw.offF_n, Cw.hdl_ret, Cw.hdl_set, Cw.hdl_pass, Cw.hev_v, Cw.hev_c, Cw.hev_fld, Cw.hev_isx, Cw.hev_tup, Cw.hev_bin, Cw.hev_cmp, Cw.hev_and, Cw.hevs_nil, Cw.hevs_cons, Cw.hBin, Cw.hCmp, Cw.hAnd, Cw.hCons2, Cw.hCons, Cw.hSet, Cw.fldK_some, Cw.bin_add, Cw.bin_sub, Cw.bin_mul, Cw.bin_mod, Cw.bin_fdiv, Cw.cmp_lt, Cw.cmp_le, Cw.cmp_gt, Cw.cmp_ge, Cw.cmo_lt, Cw.cmo_le, Cw.cmo_gt, Cw.cmo_ge, Cw.cmp_is_none, Cw.cmp_isnot_none, Cw.cmp_is_bl, Cw.cmp_isnot_bl, Cw.cmp_eq_i, Cw.cmp_ne_i, Cw.cmp_eq_b, Cw.cmp_ne_b, Cw.atD_zero, Cw.atD_one, Cw.atD_two, Cw.atD_three, Cw.ix_tup, Cw.ix_fl, Cw.ix_sc, Cw.ix_lst, Cw.ix_ref, Cw.ixO_lst, Cw.ixO_dcs, Cw.ixO_dci, Cw.bi_len_tup, Cw.bi_len_fl, Cw.bi_len_sc, Cw.bi_len_lst, Cw.bi_len_ref, Cw.lenO_lst, Cw.lenO_dct, Cw.bi_tuple_lst, Cw.bi_tuple_fl, Cw.bi_tuple_tup, Cw.bi_list_lst, Cw.bi_list_tup, Cw.bi_tuple_ref, Cw.seqO_lst, Cw.bi_int, Cw.bi_abs, Cw.bi_max, Cw.bi_min, Cw.bi_all, Cw.bi_any, Cw.bi_sum, Cw.is_int, Cw.is_bl, Cw.is_str, Cw.is_tup, Cw.is_fl, Cw.is_non, Cw.lstAt_e, Cw.src_tup, Cw.src_fl, Cw.src_sc, Cw.src_lst, Cw.items_vals, Cw.rng1, Cw.rng2, Cw.enum_lst, Cw.enum_fl, Cw.zip_tup, Cw.zip_lst, Cw.isTy, Cw.wipeD, Cw.I.isNo, Cw.bin_pow, Cw.cmp_ne_refnil, Cw.cmp_eq_refnil, Cw.nilO_ne, Cw.nilO_eq, Cw.cmp_eq_ll, Cw.cmp_ne_ll, Cw.cmp_eq_fl, Cw.cmp_ne_fl, Cw.cmp_eq_ff, Cw.cmp_ne_ff, Cw.lek_intmap, Cw.lek_ints, Cw.lek_nil, Cw.beqs_nil, Cw.mth_popO, Cw.popO_last, Cw.mth_appO, Cw.appO_lst, Cw.mth_extO, Cw.extO_lst, Cw.putK_O, Cw.putO_lst, Cw.putO_dcs, Cw.putO_dci, Cw.src_refO, Cw.srcO_lst, Cw.items_cellO, Cw.itemsO_lst, Cw.sl_sc, Cw.sl_fl, Cw.sl_lst, Cw.sl_tup, Cw.sl_refO, Cw.slO_lst, Cw.rev_lst, Cw.rev_fl, Cw.rev_tup, Cw.bin_add_tup, Cw.bin_add_lst, Cw.bin_add_fl, Cw.bin_add_ff, Cw.bin_add_lf, Cw.bin_add_ref, Cw.addO_lst, Cw.bin_mul_lst, Cw.call_t, List.getElem?_cons_zero, List.getElem?_cons_succ, List.set_cons_zero, List.set_cons_succ, List.length_cons, List.length_nil, List.nil_append, List.cons_append, List.append_nil, List.map_cons, List.map_nil, List.replicate, Nat.reduceAdd, Nat.reduceSub, Int.reducePow, List.contains_cons, List.contains_nil, Nat.reduceBEq, Nat.reduceLT, List.isEmpty_map, List.isEmpty_nil, List.isEmpty_cons, Nat.reduceEqDiff, Int.reduceNeg, Int.reduceAdd, Int.reduceSub, Int.reduceMul, Int.reduceLT, Int.reduceLE, Int.reduceEq, Int.reduceToNat, Option.isSome_some, Option.map_some, List.any_cons, List.any_nil, decide_true, decide_false, Bool.or_true, Bool.or_false, Bool.true_or, Bool.false_or, Bool.and_true, Bool.and_false, Bool.true_and, Bool.false_and, Bool.not_true, Bool.not_false, if_true, if_false, ite_true, ite_false, reduceIte, eq_self, Bool.not_eq_true, Bool.false_eq_true, decide_eq_true_eq, *])
local macro_rules | `(tactic| walk_at "sz") => `(tactic| simp -implicitDefEqProofs (disch := first | assumption | omega | exact Cw.lek_nil | exact Cw.lek_ints _ | exact Cw.lek_intmap _ _ | (simp only [List.length_map, List.length_range, Cw.line, List.length_append, List.length_cons, List.length_nil]; omega) | decide) only [Cw.R.bind_ok, Cw.R.bind_stuck, Cw.R.bind_exc, Cw.R.bind_ite, Cw.RF.of_ok, Cw.RF.of_stuck, Cw.RF.of_exc, Cw.RF.of_ite, Cw.R.noX_ok, Cw.R.ofO_some, Cw.R.ofO_map, Cw.R.ite_ok, Cw.R.ite_d, Cw.R.ite_bl, Cw.R.ite_int, Cw.seqK_nx, Cw.seqK_rt, Cw.seqK_bk, Cw.seqK_ct, Cw.seqK_exc, Cw.seqK_ite, Cw.runK_rt, Cw.runK_nx, Cw.runK_exc, Cw.runK_ite, Cw.iteK_t, Cw.iteK_f, Cw.iteK_dec, Cw.iteK_nt, Cw.iteK_ite, Cw.iteF_t, Cw.iteF_f, Cw.iteF_dec, Cw.iteF_nt, Cw.iteF_ite, Cw.chnK_t, Cw.chnK_f, Cw.chnK_dec, Cw.bndK_some, Cw.bound_t, Cw.bound_f, Cw.toDK_d, Cw.toDK_lst, Cw.toDF_d, Cw.toDF_lst, Cw.getV_some, Cw.negK_int, Cw.ntK_bl, Cw.mutK_lst, Cw.mutK_dct, Cw.mthA_t, Cw.augA_int, Cw.augK_add, Cw.augK_sub, Cw.tixK_ref, Cw.tupK, Cw.lstK, Cw.consK, Cw.consR, Cw.nxK, Cw.rtK, Cw.dropK, Cw.okB, Cw.cBin, Cw.cCmp, Cw.cChn2, Cw.cChn1, Cw.cChn, Cw.cDhn2, Cw.cDhn1, Cw.cDhn, Cw.cIfe, Cw.cIx, Cw.cSl3, Cw.cSl2, Cw.cSl1, Cw.cSl0, Cw.cSl, Cw.cCall2, Cw.cCall, Cw.cMth, Cw.cLc, Cw.cCons2, Cw.cCons, Cw.cConsR, Cw.cAnd, Cw.cOr, Cw.cZip, Cw.cTix, Cw.sSet2, Cw.sSet, Cw.sIfs, Cw.sFr, Cw.sAug, Cw.ev_v, Cw.ev_c, Cw.ev_g, Cw.ev_no, Cw.ev_tup, Cw.ev_lst, Cw.ev_dct, Cw.ev_lrg, Cw.ev_bin, Cw.ev_neg, Cw.ev_nt, Cw.ev_and, Cw.ev_or, Cw.ev_cmp, Cw.ev_chn, Cw.ev_chn3, Cw.ev_ife, Cw.ev_ix, Cw.ev_sl, Cw.ev_rev, Cw.ev_call, Cw.ev_bi, Cw.ev_isi, Cw.ev_mth, Cw.ev_mut, Cw.ev_lc, Cw.ev_rcmp, Cw.cRc, Cw.rcA, Cw.evs_nil, Cw.evs_cons, Cw.evr_nil, Cw.evr_cons, Cw.eva_one, Cw.eva_cons, Cw.evo_one, Cw.evo_cons, Cw.evi_it, Cw.evi_rng, Cw.evi_enum, Cw.evi_zip, Cw.asg_v, Cw.asg_tup, Cw.asg_ix, Cw.tgts_nil, Cw.tgts_cons, Cw.tgt_v, Cw.tgt_ix, Cw.ex_set, Cw.ex_exp, Cw.ex_ret, Cw.ex_ret0, Cw.ex_pass, Cw.ex_brk, Cw.ex_cnt, Cw.ex_aug, Cw.ex_ifs, Cw.ex_fr, Cw.exs_nil, Cw.exs_cons, Cw.ex_rs, Cw.ex_tr, Cw.excK, Cw.cat_ok, Cw.cat_exc, Cw.cat_ite, Cw.catK_t, Cw.catK_f, Cw.inI_n, Cw.inI_s, Cw.off_n, Cw.off_s, Cw.offF_nx, Cw.offF_rt, Cw.offF_n, Cw.hdl_ret, Cw.hdl_set, Cw.hdl_pass, Cw.hev_v, Cw.hev_c, Cw.hev_fld, Cw.hev_isx, Cw.hev_tup, Cw.hev_bin, Cw.hev_cmp, Cw.hev_and, Cw.hevs_nil, Cw.hevs_cons, Cw.hBin, Cw.hCmp, Cw.hAnd, Cw.hCons2, Cw.hCons, Cw.hSet, Cw.fldK_some, Cw.bin_add, Cw.bin_sub, Cw.bin_mul, Cw.bin_mod, Cw.bin_fdiv, Cw.cmp_lt, Cw.cmp_le, Cw.cmp_gt, Cw.cmp_ge, Cw.cmo_lt, Cw.cmo_le, Cw.cmo_gt, Cw.cmo_ge, Cw.cmp_is_none, Cw.cmp_isnot_none, Cw.cmp_is_bl, Cw.cmp_isnot_bl, Cw.cmp_eq_i, Cw.cmp_ne_i, Cw.cmp_eq_b, Cw.cmp_ne_b, Cw.atD_zero, Cw.atD_one, Cw.atD_two, Cw.atD_three, Cw.ix_tup, Cw.ix_fl, Cw.ix_sc, Cw.ix_lst, Cw.ix_ref, Cw.ixO_lst, Cw.ixO_dcs, Cw.ixO_dci, Cw.bi_len_tup, Cw.bi_len_fl, Cw.bi_len_sc, Cw.bi_len_lst, Cw.bi_len_ref, Cw.lenO_lst, Cw.lenO_dct, Cw.bi_tuple_lst, Cw.bi_tuple_fl, Cw.bi_tuple_tup, Cw.bi_list_lst, Cw.bi_list_tup, Cw.bi_tuple_ref, Cw.seqO_lst, Cw.bi_int, Cw.bi_abs, Cw.bi_max, Cw.bi_min, Cw.bi_all, Cw.bi_any, Cw.bi_sum, Cw.is_int, Cw.is_bl, Cw.is_str, Cw.is_tup, Cw.is_fl, Cw.is_non, Cw.lstAt_e, Cw.src_tup, Cw.src_fl, Cw.src_sc, Cw.src_lst, Cw.items_vals, Cw.rng1, Cw.rng2, Cw.enum_lst, Cw.enum_fl, Cw.zip_tup, Cw.zip_lst, Cw.isTy, Cw.wipeD, Cw.I.isNo, Cw.bin_pow, Cw.cmp_ne_refnil, Cw.cmp_eq_refnil, Cw.nilO_ne, Cw.nilO_eq, Cw.cmp_eq_ll, Cw.cmp_ne_ll, Cw.cmp_eq_fl, Cw.cmp_ne_fl, Cw.cmp_eq_ff, Cw.cmp_ne_ff, Cw.lek_intmap, Cw.lek_ints, Cw.lek_nil, Cw.beqs_nil, Cw.mth_popO, Cw.popO_last, Cw.mth_appO, Cw.appO_lst, Cw.mth_extO, Cw.extO_lst, Cw.putK_O, Cw.putO_lst, Cw.putO_dcs, Cw.putO_dci, Cw.src_refO, Cw.srcO_lst, Cw.items_cellO, Cw.itemsO_lst, Cw.sl_sc, Cw.sl_fl, Cw.sl_lst, Cw.sl_tup, Cw.sl_refO, Cw.slO_lst, Cw.rev_lst, Cw.rev_fl, Cw.rev_tup, Cw.bin_add_tup, Cw.bin_add_lst, Cw.bin_add_fl, Cw.bin_add_ff, Cw.bin_add_lf, Cw.bin_add_ref, Cw.addO_lst, Cw.bin_mul_lst, Cw.call_t, List.getElem?_cons_zero, List.getElem?_cons_succ, List.set_cons_zero, List.set_cons_succ, List.length_cons, List.length_nil, List.nil_append, List.cons_append, List.append_nil, List.map_cons, List.map_nil, List.replicate, Nat.reduceAdd, Nat.reduceSub, Int.reducePow, List.contains_cons, List.contains_nil, Nat.reduceBEq, Nat.reduceLT, List.isEmpty_map, List.isEmpty_nil, List.isEmpty_cons, Nat.reduceEqDiff, Int.reduceNeg, Int.reduceAdd, Int.reduceSub, Int.reduceMul, Int.reduceLT, Int.reduceLE, Int.reduceEq, Int.reduceToNat, Option.isSome_some, Option.map_some, List.any_cons, List.any_nil, decide_true, decide_false, Bool.or_true, Bool.or_false, Bool.true_or, Bool.false_or, Bool.and_true, Bool.and_false, Bool.true_and, Bool.false_and, Bool.not_true, Bool.not_false, if_true, if_false, ite_true, ite_false, reduceIte, eq_self, Bool.not_eq_true, Bool.false_eq_true, decide_eq_true_eq])
namespace Cw.K34
theorem dk_len (c : List Int) (m t : Int) (r : Hh) : (dk c m t r).length = r.length + 2 := rfl
theorem dk_app (c : List Int) (m t : Int) (r : Hh) (o : O) : dk c m t r ++ [o] = dk c m t (r ++ [o]) := rfl
theorem dk_two (c : List Int) (m t : Int) (o : O) : (dk c m t [o])[2]? = some o := rfl
theorem dk_put (c : List Int) (m t : Int) (o p : O) : (dk c m t [o]).set 2 p = dk c m t [p] := rfl
def In (n : Nat) (its : List (St × St)) : Prop := ∀ p ∈ its, p.1 ∈ sets n ∧ p.2 ∈ sets n
theorem In.app {n : Nat} {a b : List (St × St)} (ha : In n a) (hb : In n b) : In n (a ++ b) := fun p hp => (List.mem_append.mp hp).elim (ha p) (hb p)
theorem turn1 {k n : Nat} {r : St} (hr : r ∈ sets n) {c : List Int} {m t : Int} {its : List (St × St)} (hi : In n its) (hl : its.length + (sets n).length ≤ 100000) : ∃ jts, In n jts ∧ jts.length = its.length + (sets n).length ∧
    exs (runB tb k) [.exp (.mth .extend (.v 3) [(.lc (.tup [(.v 5), (.v 8)]) (.v 8) (.it (.v 2)) (.c (.bl true)) [("columns", 8)])])] [some (.ref 1), some (.int n), some (.fl ((sets n).map sd)), some (.ref 2), none, some (sd r), none, none, none] (dk c m t [.lst (its.map pd)]) =
    .ok (.nx [some (.ref 1), some (.int n), some (.fl ((sets n).map sd)), some (.ref 2), none, some (sd r), none, none, none]) (dk c m t [.lst (jts.map pd)]) := by
  refine ⟨its ++ (sets n).map fun x => (r, x), hi.app fun p hp => ?_, ?_, ?_⟩
  · obtain ⟨x, hx, rfl⟩ := List.mem_map.mp hp
    exact ⟨hr, hx⟩
  · rw [List.length_append, List.length_map]
  have q1 : (its.map pd).length + ((sets n).map fun x => pd (r, x)).length ≤ line := by rw [List.length_map, List.length_map]; unfold line; omega
  have ht : ∀ ys, turns (.v 8) (ev (runB tb k) (.c (.bl true))) (ev (runB tb k) (.tup [(.v 5), (.v 8)])) (.vals ys) [some (.ref 1), some (.int n), some (.fl ((sets n).map sd)), some (.ref 2), none, some (sd r), none, none, none] ((sets n).map sd) 0 (dk c m t [.lst (its.map pd)]) = .ok ((sets n).map fun x => pd (r, x)) (dk c m t [.lst (its.map pd)]) := fun ys => by
    have := turns_mapT (t := .v 8) (c := ev (runB tb k) (.c (.bl true))) (e := ev (runB tb k) (.tup [(.v 5), (.v 8)])) (all := ys) (σ := [some (.ref 1), some (.int n), some (.fl ((sets n).map sd)), some (.ref 2), none, some (sd r), none, none, none]) (h := dk c m t [.lst (its.map pd)]) sd (fun _ => true) (fun x => pd (r, x)) (sets n) 0 (fun x _ => ⟨_, rfl, by walk_at "sy", fun _ => ⟨.d (pd (r, x)), by simp only [pd_e]; walk_at "sy", rfl⟩⟩)
    rw [this, List.filter_eq_self.mpr (fun _ _ => rfl)]
  have e : (its ++ (sets n).map fun x => (r, x)).map pd = its.map pd ++ (sets n).map fun x => pd (r, x) := by rw [List.map_append, List.map_map]; rfl
  rw [e]
  have d2 := dk_two c m t (.lst (its.map pd))
  have d3 := dk_put c m t (.lst (its.map pd))
  clear e hi hr hl
  walk_at "sy"
theorem few_len {n : Nat} (hn : n < 4) : (sets n).length ≤ 8 := by
  match n, hn with
  | 0, _ => decide
  | 1, _ => decide
  | 2, _ => decide
  | 3, _ => decide
  | k + 4, h => omega
theorem pairs_few {k n : Nat} (hn : n < 4) {c : List Int} {m t : Int} : ∃ its, In n its ∧ run tb (k + 1) 19 [.ref 1, .int n, .fl ((sets n).map sd)] (dk c m t []) = .ok (.d (.ref 2)) (dk c m t [.lst (its.map pd)]) := by
  have h4 : (n : Int) < 4 := by omega
  obtain ⟨its, hi, loop⟩ : ∃ its, In n its ∧ ∃ x5, forL (.v 5) (exs (runB tb k) [.exp (.mth .extend (.v 3) [(.lc (.tup [(.v 5), (.v 8)]) (.v 8) (.it (.v 2)) (.c (.bl true)) [("columns", 8)])])]) (.vals ((sets n).map sd)) ((sets n).map sd) 0 [some (.ref 1), some (.int n), some (.fl ((sets n).map sd)), some (.ref 2), none, none, none, none, none] (dk c m t [.lst []]) =
      .ok (.nx [some (.ref 1), some (.int n), some (.fl ((sets n).map sd)), some (.ref 2), none, x5, none, none, none]) (dk c m t [.lst (its.map pd)]) := by
    have gen : ∀ (all xs : List D) (i : Nat), (∀ d ∈ xs, d ∈ (sets n).map sd) → ∀ (its : List (St × St)) (x5 : Option D), In n its → its.length + xs.length * 8 ≤ 1000 → ∃ jts, In n jts ∧ ∃ y5, forL (.v 5) (exs (runB tb k) [.exp (.mth .extend (.v 3) [(.lc (.tup [(.v 5), (.v 8)]) (.v 8) (.it (.v 2)) (.c (.bl true)) [("columns", 8)])])]) (.vals all) xs i [some (.ref 1), some (.int n), some (.fl ((sets n).map sd)), some (.ref 2), none, x5, none, none, none] (dk c m t [.lst (its.map pd)]) =
        .ok (.nx [some (.ref 1), some (.int n), some (.fl ((sets n).map sd)), some (.ref 2), none, y5, none, none, none]) (dk c m t [.lst (jts.map pd)]) := fun all xs => by
      induction xs with
      | nil => exact fun i _ its x5 hi _ => ⟨its, hi, x5, rfl⟩
      | cons d xs ih =>
        intro i hd its x5 hi hb
        rw [List.length_cons] at hb
        have s8 := few_len hn
        obtain ⟨r, hr, rfl⟩ := List.mem_map.mp (hd d List.mem_cons_self)
        obtain ⟨jts, hj, hjl, e⟩ := turn1 (k := k) hr (c := c) (m := m) (t := t) hi (by omega)
        obtain ⟨kts, hk, y5, e2⟩ := ih (i + 1) (fun d hd' => hd d (List.mem_cons_of_mem _ hd')) jts (some (sd r)) hj (by omega)
        refine ⟨kts, hk, y5, ?_⟩
        unfold forL
        show (match exs (runB tb k) _ [some (.ref 1), some (.int n), some (.fl ((sets n).map sd)), some (.ref 2), none, some (sd r), none, none, none] _ with | .ok (.nx σ) h => _ | .ok (.ct σ) h => _ | .ok (.bk σ) h => _ | .ok (.rt v) h => _ | .exc x σ h => _ | .stuck => _) = _
        rw [e]
        exact e2
    have s8 := few_len hn
    exact gen _ _ 0 (fun d h => h) [] none (fun p hp => nomatch hp) (by rw [List.length_map, List.length_nil]; omega)
  obtain ⟨x5, loop⟩ := loop
  refine ⟨its, hi, ?_⟩
  have d1 := dk_len c m t []
  have d2 := dk_app c m t []
  rw [run_def (fn := f19) rfl rfl]; unfold f19
  clear hi
  walk_at "sy"
theorem many_ne {n : Nat} (h1 : 1 ≤ n) (h6 : n ≤ 6) : (sets n).map sd ≠ [] ∧ ((sets n).map sd).length ≤ 64 := by
  match n, h1, h6 with
  | 1, _, _ => exact ⟨by simp [sets, sets1], by decide⟩
  | 2, _, _ => exact ⟨by simp [sets, sets2], by decide⟩
  | 3, _, _ => exact ⟨by simp [sets, sets3], by decide⟩
  | 4, _, _ => exact ⟨by simp [sets, sets4], by decide⟩
  | 5, _, _ => exact ⟨by simp [sets, sets5], by decide⟩
  | 6, _, _ => exact ⟨by simp [sets, sets6], by decide⟩
  | k + 7, _, h => exact absurd h (by omega)
theorem DkI.next {c c' : List Int} {m t : Int} (i : DkI c m t) (h : c'.length ≤ 63) (ht : t ≤ 999999) : DkI c' m (t + 1) := ⟨h, i.lo, i.hi, by have := i.lt; omega, by omega⟩
/-- one of the sets -/
theorem pickS {k n : Nat} (h1 : 1 ≤ n) (h6 : n ≤ 6) {c : List Int} {m t : Int} (i : DkI c m t) (r : Hh) : ∃ x c', run tb (k + 2) 13 [.ref 1, .fl ((sets n).map sd)] (dk c m t r) = .ok (.d (sd x)) (dk c' m (t + 1) r) ∧ x ∈ sets n ∧ c'.length ≤ 63 := by
  obtain ⟨e1, e2⟩ := many_ne h1 h6
  obtain ⟨d, c', q1, q2, q3⟩ := pick (k := k) false e1 (by omega) i r
  obtain ⟨x, hx, rfl⟩ := List.mem_map.mp q2
  exact ⟨x, c', q1, hx, q3⟩
theorem turn2 {k n : Nat} (h1 : 1 ≤ n) (h6 : n ≤ 6) {c : List Int} {m t : Int} (i : DkI c m t) (ht : t ≤ 900000) {its : List (St × St)} (hi : In n its) (hl : its.length ≤ 100000) (x4 x5 x6 : Option D) : ∃ jts c' y5 y6, In n jts ∧ jts.length = its.length + 1 ∧ c'.length ≤ 63 ∧
    exs (runB tb (k + 2)) [.set (.v 5) (.call true 13 "_law_pick" [(.v 0), (.v 2)] [] []), .set (.v 6) (.lc (.v 7) (.v 7) (.it (.v 2)) (.cmp .eq (.bi .len [(.v 7)]) (.bi .len [(.v 5)])) [("some", 7)]), .exp (.mth .append (.v 3) [(.tup [(.v 5), (.ife (.cmp .gt (.call true 12 "_law_draw" [(.v 0), (.c (.int 5))] [] []) (.c (.int 0))) (.call true 13 "_law_pick" [(.v 0), (.v 6)] [] []) (.call true 13 "_law_pick" [(.v 0), (.v 2)] [] []))])])] [some (.ref 1), some (.int n), some (.fl ((sets n).map sd)), some (.ref 2), x4, x5, x6, none, none] (dk c m t [.lst (its.map pd)]) =
    .ok (.nx [some (.ref 1), some (.int n), some (.fl ((sets n).map sd)), some (.ref 2), x4, y5, y6, none, none]) (dk c' m (t + 1 + 1 + 1) [.lst (jts.map pd)]) := by
  obtain ⟨r, c1, p1, hr, l1⟩ := pickS (k := k) h1 h6 i [.lst (its.map pd)]
  have i1 := i.next l1 (by omega)
  obtain ⟨v, c2, p2, v1, v2, l2⟩ := draw (k := k + 1) (b := 5) (by omega) (by omega) i1 [.lst (its.map pd)]
  have i2 := i1.next l2 (by omega)
  have lr := sd_len r
  have ht2 : ∀ ys, turns (.v 7) (ev (runB tb (k + 2)) (.cmp .eq (.bi .len [(.v 7)]) (.bi .len [(.v 5)]))) (ev (runB tb (k + 2)) (.v 7)) (.vals ys) [some (.ref 1), some (.int n), some (.fl ((sets n).map sd)), some (.ref 2), x4, some (sd r), x6, none, none] ((sets n).map sd) 0 (dk c1 m (t + 1) [.lst (its.map pd)]) = .ok (((sets n).filter fun x => decide (x.length = r.length)).map sd) (dk c1 m (t + 1) [.lst (its.map pd)]) := fun ys => by
    refine turns_mapT sd (fun x => decide (x.length = r.length)) sd (sets n) 0 fun x _ => ⟨[some (.ref 1), some (.int n), some (.fl ((sets n).map sd)), some (.ref 2), x4, some (sd r), x6, some (sd x), none], rfl, ?_, fun _ => ⟨.d (sd x), ?_, rfl⟩⟩
    · have lx := sd_len x
      have e : decide ((x.length : Int) = (r.length : Int)) = decide (x.length = r.length) := by rw [decide_eq_decide]; omega
      clear i i1 i2 p1 p2
      rw [← e]
      walk_at "sy"
    · walk_at "sy"
  have like_ne : ((sets n).filter fun x => decide (x.length = r.length)).map sd ≠ [] := fun e => by
    have := List.filter_eq_nil_iff.mp (List.map_eq_nil_iff.mp e) r hr
    simp at this
  have like_le : (((sets n).filter fun x => decide (x.length = r.length)).map sd).length ≤ 1000000 := by
    have a := (many_ne h1 h6).2
    have b := List.length_filter_le (fun x : St => decide (x.length = r.length)) (sets n)
    rw [List.length_map] at a ⊢
    omega
  have q1 : (its.map pd).length < line := by rw [List.length_map]; unfold line; omega
  obtain ⟨x, c3, p3, hx, l3⟩ : ∃ x c3, run tb (k + 2) 13 [.ref 1, if 0 < v then .fl (((sets n).filter fun x => decide (x.length = r.length)).map sd) else .fl ((sets n).map sd)] (dk c2 m (t + 1 + 1) [.lst (its.map pd)]) = .ok (.d (sd x)) (dk c3 m (t + 1 + 1 + 1) [.lst (its.map pd)]) ∧ x ∈ sets n ∧ c3.length ≤ 63 := by
    by_cases h : 0 < v
    · obtain ⟨d, c3, e1, e2, e3⟩ := pick (k := k) false like_ne like_le i2 [.lst (its.map pd)]
      obtain ⟨x, hx, rfl⟩ := List.mem_map.mp e2
      exact ⟨x, c3, by rw [if_pos h]; exact e1, (List.mem_filter.mp hx).1, e3⟩
    · obtain ⟨x, c3, e1, e2, e3⟩ := pickS (k := k) h1 h6 i2 [.lst (its.map pd)]
      exact ⟨x, c3, by rw [if_neg h]; exact e1, e2, e3⟩
  refine ⟨its ++ [(r, x)], c3, some (sd r), some (.fl (((sets n).filter fun x => decide (x.length = r.length)).map sd)), hi.app fun p hp => ?_, by rw [List.length_append]; rfl, l3, ?_⟩
  · rcases List.mem_singleton.mp hp with rfl
    exact ⟨hr, hx⟩
  have e : (its ++ [(r, x)]).map pd = its.map pd ++ [.tup [sd r, sd x]] := by rw [List.map_append]; rfl
  rw [e]
  have d2 : ∀ c t, (dk c m t [.lst (its.map pd)])[2]? = some (.lst (its.map pd)) := fun _ _ => rfl
  have d3 : ∀ c t p, (dk c m t [.lst (its.map pd)]).set 2 p = dk c m t [p] := fun _ _ _ => rfl
  clear e hi hr hl i i1 i2 like_ne like_le ht
  by_cases h : 0 < v
  · rw [if_pos h] at p3
    walk_at "sy"
  · rw [if_neg h] at p3
    walk_at "sy"
theorem pairs_many {k n : Nat} (h4 : 4 ≤ n) (h6 : n ≤ 6) {c : List Int} {m t : Int} (i : DkI c m t) (ht : t ≤ 1000) : ∃ its c' t', In n its ∧ run tb (k + 3) 19 [.ref 1, .int n, .fl ((sets n).map sd)] (dk c m t []) = .ok (.d (.ref 2)) (dk c' m t' [.lst (its.map pd)]) := by
  have hn4 : ¬ ((n : Int) < 4) := by omega
  have gen : ∀ (all xs : List D) (j : Nat) (c : List Int) (t : Int) (its : List (St × St)) (x4 x5 x6 : Option D), DkI c m t → t + 3 * xs.length ≤ 900000 → In n its → its.length + xs.length ≤ 1000 → ∃ jts c' t' y4 y5 y6, In n jts ∧ forL (.v 4) (exs (runB tb (k + 2)) [.set (.v 5) (.call true 13 "_law_pick" [(.v 0), (.v 2)] [] []), .set (.v 6) (.lc (.v 7) (.v 7) (.it (.v 2)) (.cmp .eq (.bi .len [(.v 7)]) (.bi .len [(.v 5)])) [("some", 7)]), .exp (.mth .append (.v 3) [(.tup [(.v 5), (.ife (.cmp .gt (.call true 12 "_law_draw" [(.v 0), (.c (.int 5))] [] []) (.c (.int 0))) (.call true 13 "_law_pick" [(.v 0), (.v 6)] [] []) (.call true 13 "_law_pick" [(.v 0), (.v 2)] [] []))])])]) (.vals all) xs j [some (.ref 1), some (.int n), some (.fl ((sets n).map sd)), some (.ref 2), x4, x5, x6, none, none] (dk c m t [.lst (its.map pd)]) =
      .ok (.nx [some (.ref 1), some (.int n), some (.fl ((sets n).map sd)), some (.ref 2), y4, y5, y6, none, none]) (dk c' m t' [.lst (jts.map pd)]) := fun all xs => by
    induction xs with
    | nil => exact fun j c t its x4 x5 x6 _ _ hi _ => ⟨its, c, t, x4, x5, x6, hi, rfl⟩
    | cons d xs ih =>
      intro j c t its x4 x5 x6 i hb hi hl
      rw [List.length_cons] at hb hl
      obtain ⟨jts, c1, y5, y6, hj, hjl, hc, e⟩ := turn2 (k := k) (by omega) h6 i (by omega) hi (by omega) (some d) x5 x6
      have i3 : DkI c1 m (t + 1 + 1 + 1) := ⟨hc, i.lo, i.hi, by have := i.lt; omega, by omega⟩
      obtain ⟨kts, c2, t2, z4, z5, z6, hk, e2⟩ := ih (j + 1) c1 (t + 1 + 1 + 1) jts (some d) y5 y6 i3 (by omega) hj (by omega)
      refine ⟨kts, c2, t2, z4, z5, z6, hk, ?_⟩
      unfold forL
      show (match exs (runB tb (k + 2)) _ [some (.ref 1), some (.int n), some (.fl ((sets n).map sd)), some (.ref 2), some d, x5, x6, none, none] _ with | .ok (.nx σ) h => _ | .ok (.ct σ) h => _ | .ok (.bk σ) h => _ | .ok (.rt v) h => _ | .exc x σ h => _ | .stuck => _) = _
      rw [e]
      exact e2
  obtain ⟨its, c', t', y4, y5, y6, hi, loop⟩ := gen ((List.range 24).map fun (i : Nat) => D.int i) ((List.range 24).map fun (i : Nat) => D.int i) 0 c t [] none none none i (by rw [List.length_map, List.length_range]; omega) (fun p hp => nomatch hp) (by rw [List.length_map, List.length_range, List.length_nil]; omega)
  simp only [List.map_nil] at loop
  refine ⟨its, c', t', hi, ?_⟩
  have d1 := dk_len c m t []
  have d2 := dk_app c m t []
  rw [run_def (fn := f19) rfl rfl]; unfold f19
  clear hi gen i
  walk_at "sy"
end Cw.K34
end

section
set_option Elab.async false
set_option linter.all false
set_option maxRecDepth 100000
set_option maxHeartbeats 800000
/-! K34y: the tables as facts. -/
open PySem PySem.Spec PyProof.Rows L2 Cw
local macro_rules | `(tactic| walk_at "sy") => `(tactic| simp -implicitDefEqProofs (disch := first | assumption | omega | exact Cw.lek_nil | exact Cw.lek_ints _ | exact Cw.lek_intmap _ _ | (simp only [List.length_map, List.length_range, Cw.line, List.length_append, List.length_cons, List.length_nil]; omega) | decide) only [Cw.R.bind_ok, Cw.R.bind_stuck, Cw.R.bind_exc, Cw.R.bind_ite, Cw.RF.of_ok, Cw.RF.of_stuck, Cw.RF.of_exc, Cw.RF.of_ite, Cw.R.noX_ok, Cw.R.ofO_some, Cw.R.ofO_map, Cw.R.ite_ok, Cw.R.ite_d, Cw.R.ite_bl, Cw.R.ite_int, Cw.seqK_nx, Cw.seqK_rt, Cw.seqK_bk, Cw.seqK_ct, Cw.seqK_exc, Cw.seqK_ite, Cw.runK_rt, Cw.runK_nx, Cw.runK_exc, Cw.runK_ite, Cw.iteK_t, Cw.iteK_f, Cw.iteK_dec, Cw.iteK_nt, Cw.iteK_ite, Cw.iteF_t, Cw.iteF_f, Cw.iteF_dec, Cw.iteF_nt, Cw.iteF_ite, Cw.chnK_t, Cw.chnK_f, Cw.chnK_dec, Cw.bndK_some, Cw.bound_t, Cw.bound_f, Cw.toDK_d, Cw.toDK_lst, Cw.toDF_d, Cw.toDF_lst, Cw.getV_some, Cw.negK_int, Cw.ntK_bl, Cw.mutK_lst, Cw.mutK_dct, Cw.mthA_t, Cw.augA_int, Cw.augK_add, Cw.augK_sub, Cw.tixK_ref, Cw.tupK, Cw.lstK, Cw.consK, Cw.consR, Cw.nxK, Cw.rtK, Cw.dropK, Cw.okB, Cw.cBin, Cw.cCmp, Cw.cChn2, Cw.cChn1, Cw.cChn, Cw.cDhn2, Cw.cDhn1, Cw.cDhn, Cw.cIfe, Cw.cIx, Cw.cSl3, Cw.cSl2, Cw.cSl1, Cw.cSl0, Cw.cSl, Cw.cCall2, Cw.cCall, Cw.cMth, Cw.cLc, Cw.cCons2, Cw.cCons, Cw.cConsR, Cw.cAnd, Cw.cOr, Cw.cZip, Cw.cTix, Cw.sSet2, Cw.sSet, Cw.sIfs, Cw.sFr, Cw.sAug, Cw.ev_v, Cw.ev_c, Cw.ev_g, Cw.ev_no, Cw.ev_tup, Cw.ev_lst, Cw.ev_dct, Cw.ev_lrg, Cw.ev_bin, Cw.ev_neg, Cw.ev_nt, Cw.ev_and, Cw.ev_or, Cw.ev_cmp, Cw.ev_chn, Cw.ev_chn3, Cw.ev_ife, Cw.ev_ix, Cw.ev_sl, Cw.ev_rev, Cw.ev_call, Cw.ev_bi, Cw.ev_isi, Cw.ev_mth, Cw.ev_mut, Cw.ev_lc, Cw.ev_rcmp, Cw.cRc, Cw.rcA, Cw.evs_nil, Cw.evs_cons, Cw.evr_nil, Cw.evr_cons, Cw.eva_one, Cw.eva_cons, Cw.evo_one, Cw.evo_cons, Cw.evi_it, Cw.evi_rng, Cw.evi_enum, Cw.evi_zip, Cw.asg_v, Cw.asg_tup, Cw.asg_ix, Cw.tgts_nil, Cw.tgts_cons, Cw.tgt_v, Cw.tgt_ix, Cw.ex_set, Cw.ex_exp, Cw.ex_ret, Cw.ex_ret0, Cw.ex_pass, Cw.ex_brk, Cw.ex_cnt, Cw.ex_aug, Cw.ex_ifs, Cw.ex_fr, Cw.exs_nil, Cw.exs_cons, Cw.ex_rs, Cw.ex_tr, Cw.excK, Cw.cat_ok, Cw.cat_exc, Cw.cat_ite, Cw.catK_t, Cw.catK_f, Cw.inI_n, Cw.inI_s, Cw.off_n, Cw.off_s, Cw.offF_nx, Cw.offF_rt, Cw.offF_n, Cw.hdl_ret, Cw.hdl_set, Cw.hdl_pass, Cw.hev_v, Cw.hev_c, Cw.hev_fld, Cw.hev_isx, Cw.hev_tup, Cw.hev_bin, Cw.hev_cmp, Cw.hev_and, Cw.hevs_nil, Cw.hevs_cons, Cw.hBin, Cw.hCmp, Cw.hAnd, Cw.hCons2, Cw.hCons, Cw.hSet, Cw.fldK_some, Cw.bin_add, Cw.bin_sub, Cw.bin_mul, Cw.bin_mod, Cw.bin_fdiv, Cw.cmp_lt, Cw.cmp_le, Cw.cmp_gt, Cw.cmp_ge, Cw.cmo_lt, Cw.cmo_le, Cw.cmo_gt, Cw.cmo_ge, Cw.cmp_is_none, Cw.cmp_isnot_none, Cw.cmp_is_bl, Cw.cmp_isnot_bl, Cw.cmp_eq_i, Cw.cmp_ne_i, Cw.cmp_eq_b, Cw.cmp_ne_b, Cw.atD_zero, Cw.atD_one, Cw.atD_two, Cw.atD_three, Cw.ix_tup, Cw.ix_fl, Cw.ix_sc, Cw.ix_lst, Cw.ix_ref, Cw.ixO_lst, Cw.ixO_dcs, Cw.ixO_dci, Cw.bi_len_tup, Cw.bi_len_fl, Cw.bi_len_sc, Cw.bi_len_lst, Cw.bi_len_ref, Cw.lenO_lst, Cw.lenO_dct, Cw.bi_tuple_lst, Cw.bi_tuple_fl, Cw.bi_tuple_tup, Cw.bi_list_lst, Cw.bi_list_tup, Cw.bi_tuple_ref, Cw.seqO_lst, Cw.bi_int, Cw.bi_abs, Cw.bi_max, Cw.bi_min, Cw.bi_all, Cw.bi_any, Cw.bi_sum, Cw.is_int, Cw.is_bl, Cw.is_str, Cw.is_tup, Cw.is_fl, Cw.is_non, Cw.lstAt_e, Cw.src_tup, Cw.src_fl, Cw.src_sc, Cw.src_lst, Cw.items_vals, Cw.rng1, Cw.rng2, Cw.enum_lst, Cw.enum_fl, Cw.zip_tup, Cw.zip_lst, Cw.isTy, Cw.wipeD, Cw.I.isNo, Cw.bin_pow, Cw.cmp_ne_refnil, Cw.cmp_eq_refnil, Cw.nilO_ne, Cw.nilO_eq, Cw.cmp_eq_ll, Cw.cmp_ne_ll, Cw.cmp_eq_fl, Cw.cmp_ne_fl, Cw.cmp_eq_ff, Cw.cmp_ne_ff, Cw.lek_intmap, Cw.lek_ints, Cw.lek_nil, Cw.beqs_nil, Cw.mth_popO, Cw.popO_last, Cw.mth_appO, Cw.appO_lst, Cw.mth_extO, Cw.extO_lst, Cw.putK_O, Cw.putO_lst, Cw.putO_dcs, Cw.putO_dci, Cw.src_refO, Cw.srcO_lst, Cw.items_cellO, Cw.itemsO_lst, Cw.sl_sc, Cw.sl_fl, Cw.sl_lst, Cw.sl_tup, Cw.sl_refO, Cw.slO_lst, Cw.rev_lst, Cw.rev_fl, Cw.rev_tup, Cw.bin_add_tup, Cw.bin_add_lst, Cw.bin_add_fl, Cw.bin_add_ff, Cw.bin_add_lf, Cw.bin_add_ref, Cw.addO_lst, Cw.bin_mul_lst, Cw.call_t, List.getElem?_cons_zero, List.getElem?_cons_succ, List.set_cons_zero, List.set_cons_succ, List.length_cons, List.length_nil, List.nil_append, List.cons_append, List.append_nil, List.map_cons, List.map_nil, List.replicate, Nat.reduceAdd, Nat.reduceSub, Int.reducePow, List.contains_cons, List.contains_nil, Nat.reduceBEq, Nat.reduceLT, List.isEmpty_map, List.isEmpty_nil, List.isEmpty_cons, Nat.reduceEqDiff, Int.reduceNeg, Int.reduceAdd, Int.reduceSub, Int.reduceMul, Int.reduceLT, Int.reduceLE, Int.reduceEq, Int.reduceToNat, Option.isSome_some, Option.map_some, List.any_cons, List.any_nil, decide_true, decide_false, Bool.or_true, Bool.or_false, Bool.true_or, Bool.false_or, Bool.and_true, Bool.and_false, Bool.true_and, Bool.false_and, Bool.not_true, Bool.not_false, if_true, if_false, ite_true, ite_false, reduceIte, eq_self, Bool.not_eq_true, Bool.false_eq_true, decide_eq_true_eq, *])
local macro_rules | `(tactic| walk_at "sz") => `(tactic| simp -implicitDefEqProofs (disch := first | assumption | omega | exact Cw.lek_nil | exact Cw.lek_ints _ | exact Cw.lek_intmap _ _ | (simp only [List.length_map, List.length_range, Cw.line, List.length_append, List.length_cons, List.length_nil]; omega) | decide) only [Cw.R.bind_ok, Cw.R.bind_stuck, Cw.R.bind_exc, Cw.R.bind_ite, Cw.RF.of_ok, Cw.RF.of_stuck, Cw.RF.of_exc, Cw.RF.of_ite, Cw.R.noX_ok, Cw.R.ofO_some, Cw.R.ofO_map, Cw.R.ite_ok, Cw.R.ite_d, Cw.R.ite_bl, Cw.R.ite_int, Cw.seqK_nx, Cw.seqK_rt, Cw.seqK_bk, Cw.seqK_ct, Cw.seqK_exc, Cw.seqK_ite, Cw.runK_rt, Cw.runK_nx, Cw.runK_exc, Cw.runK_ite, Cw.iteK_t, Cw.iteK_f, Cw.iteK_dec, Cw.iteK_nt, Cw.iteK_ite, Cw.iteF_t, Cw.iteF_f, Cw.iteF_dec, Cw.iteF_nt, Cw.iteF_ite, Cw.chnK_t, Cw.chnK_f, Cw.chnK_dec, Cw.bndK_some, Cw.bound_t, Cw.bound_f, Cw.toDK_d, Cw.toDK_lst, Cw.toDF_d, Cw.toDF_lst, Cw.getV_some, Cw.negK_int, Cw.ntK_bl, Cw.mutK_lst, Cw.mutK_dct, Cw.mthA_t, Cw.augA_int, Cw.augK_add, Cw.augK_sub, Cw.tixK_ref, Cw.tupK, Cw.lstK, Cw.consK, Cw.consR, Cw.nxK, Cw.rtK, Cw.dropK, Cw.okB, Cw.cBin, Cw.cCmp, Cw.cChn2, Cw.cChn1, Cw.cChn, Cw.cDhn2, Cw.cDhn1, Cw.cDhn, Cw.cIfe, Cw.cIx, Cw.cSl3, Cw.cSl2, Cw.cSl1, Cw.cSl0, Cw.cSl, Cw.cCall2, Cw.cCall, Cw.cMth, Cw.cLc, Cw.cCons2, Cw.cCons, Cw.cConsR, Cw.cAnd, Cw.cOr, Cw.cZip, Cw.cTix, Cw.sSet2, Cw.sSet, Cw.sIfs, Cw.sFr, Cw.sAug, Cw.ev_v, Cw.ev_c, Cw.ev_g, Cw.ev_no, Cw.ev_tup, Cw.ev_lst, Cw.ev_dct, Cw.ev_lrg, Cw.ev_bin, Cw.ev_neg, Cw.ev_nt, Cw.ev_and, Cw.ev_or, Cw.ev_cmp, Cw.ev_chn, Cw.ev_chn3, Cw.ev_ife, Cw.ev_ix, Cw.ev_sl, Cw.ev_rev, Cw.ev_call, Cw.ev_bi, Cw.ev_isi, Cw.ev_mth, Cw.ev_mut, Cw.ev_lc, Cw.ev_rcmp, Cw.cRc, Cw.rcA, Cw.evs_nil, Cw.evs_cons, Cw.evr_nil, Cw.evr_cons, Cw.eva_one, Cw.eva_cons, Cw.evo_one, Cw.evo_cons, Cw.evi_it, Cw.evi_rng, Cw.evi_enum, Cw.evi_zip, Cw.asg_v, Cw.asg_tup, Cw.asg_ix, Cw.tgts_nil, Cw.tgts_cons, Cw.tgt_v, Cw.tgt_ix, Cw.ex_set, Cw.ex_exp, Cw.ex_ret, Cw.ex_ret0, Cw.ex_pass, Cw.ex_brk, Cw.ex_cnt, Cw.ex_aug, Cw.ex_ifs, Cw.ex_fr, Cw.exs_nil, Cw.exs_cons, Cw.ex_rs, Cw.ex_tr, Cw.excK, Cw.cat_ok, Cw.cat_exc, Cw.cat_ite, Cw.catK_t, Cw.catK_f, Cw.inI_n, Cw.inI_s, Cw.off_n, Cw.off_s, Cw.offF_nx, Cw.offF_rt, Cw.offF_n, Cw.hdl_ret, Cw.hdl_set, Cw.hdl_pass, Cw.hev_v, Cw.hev_c, Cw.hev_fld, Cw.hev_isx, Cw.hev_tup, Cw.hev_bin, Cw.hev_cmp, Cw.hev_and, Cw.hevs_nil, Cw.hevs_cons, Cw.hBin, Cw.hCmp, Cw.hAnd, Cw.hCons2, Cw.hCons, Cw.hSet, Cw.fldK_some, Cw.bin_add, Cw.bin_sub, Cw.bin_mul, Cw.bin_mod, Cw.bin_fdiv, Cw.cmp_lt, Cw.cmp_le, Cw.cmp_gt, Cw.cmp_ge, Cw.cmo_lt, Cw.cmo_le, Cw.cmo_gt, Cw.cmo_ge, Cw.cmp_is_none, Cw.cmp_isnot_none, Cw.cmp_is_bl, Cw.cmp_isnot_bl, Cw.cmp_eq_i, Cw.cmp_ne_i, Cw.cmp_eq_b, Cw.cmp_ne_b, Cw.atD_zero, Cw.atD_one, Cw.atD_two, Cw.atD_three, Cw.ix_tup, Cw.ix_fl, Cw.ix_sc, Cw.ix_lst, Cw.ix_ref, Cw.ixO_lst, Cw.ixO_dcs, Cw.ixO_dci, Cw.bi_len_tup, Cw.bi_len_fl, Cw.bi_len_sc, Cw.bi_len_lst, Cw.bi_len_ref, Cw.lenO_lst, Cw.lenO_dct, Cw.bi_tuple_lst, Cw.bi_tuple_fl, Cw.bi_tuple_tup, Cw.bi_list_lst, Cw.bi_list_tup, Cw.bi_tuple_ref, Cw.seqO_lst, Cw.bi_int, Cw.bi_abs, Cw.bi_max, Cw.bi_min, Cw.bi_all, Cw.bi_any, Cw.bi_sum, Cw.is_int, Cw.is_bl, Cw.is_str, Cw.is_tup, Cw.is_fl, Cw.is_non, Cw.lstAt_e, Cw.src_tup, Cw.src_fl, Cw.src_sc, Cw.src_lst, Cw.items_vals, Cw.rng1, Cw.rng2, Cw.enum_lst, Cw.enum_fl, Cw.zip_tup, Cw.zip_lst, Cw.isTy, Cw.wipeD, Cw.I.isNo, Cw.bin_pow, Cw.cmp_ne_refnil, Cw.cmp_eq_refnil, Cw.nilO_ne, Cw.nilO_eq, Cw.cmp_eq_ll, Cw.cmp_ne_ll, Cw.cmp_eq_fl, Cw.cmp_ne_fl, Cw.cmp_eq_ff, Cw.cmp_ne_ff, Cw.lek_intmap, Cw.lek_ints, Cw.lek_nil, Cw.beqs_nil, Cw.mth_popO, Cw.popO_last, Cw.mth_appO, Cw.appO_lst, Cw.mth_extO, Cw.extO_lst, Cw.putK_O, Cw.putO_lst, Cw.putO_dcs, Cw.putO_dci, Cw.src_refO, Cw.srcO_lst, Cw.items_cellO, Cw.itemsO_lst, Cw.sl_sc, Cw.sl_fl, Cw.sl_lst, Cw.sl_tup, Cw.sl_refO, Cw.slO_lst, Cw.rev_lst, Cw.rev_fl, Cw.rev_tup, Cw.bin_add_tup, Cw.bin_add_lst, Cw.bin_add_fl, Cw.bin_add_ff, Cw.bin_add_lf, Cw.bin_add_ref, Cw.addO_lst, Cw.bin_mul_lst, Cw.call_t, List.getElem?_cons_zero, List.getElem?_cons_succ, List.set_cons_zero, List.set_cons_succ, List.length_cons, List.length_nil, List.nil_append, List.cons_append, List.append_nil, List.map_cons, List.map_nil, List.replicate, Nat.reduceAdd, Nat.reduceSub, Int.reducePow, List.contains_cons, List.contains_nil, Nat.reduceBEq, Nat.reduceLT, List.isEmpty_map, List.isEmpty_nil, List.isEmpty_cons, Nat.reduceEqDiff, Int.reduceNeg, Int.reduceAdd, Int.reduceSub, Int.reduceMul, Int.reduceLT, Int.reduceLE, Int.reduceEq, Int.reduceToNat, Option.isSome_some, Option.map_some, List.any_cons, List.any_nil, decide_true, decide_false, Bool.or_true, Bool.or_false, Bool.true_or, Bool.false_or, Bool.and_true, Bool.and_false, Bool.true_and, Bool.false_and, Bool.not_true, Bool.not_false, if_true, if_false, ite_true, ite_false, reduceIte, eq_self, Bool.not_eq_true, Bool.false_eq_true, decide_eq_true_eq])
namespace Cw.K34
theorem setF {n : Nat} {s : St} (h : s ∈ sets n) : SetF n s ∧ comp n s ∈ sets n := by
  have go : chkS n s = true := by
    match n, h with
    | 1, h => exact List.all_eq_true.mp s_1 s h
    | 2, h => exact List.all_eq_true.mp s_2 s h
    | 3, h => exact List.all_eq_true.mp s_3 s h
    | 4, h => exact List.all_eq_true.mp s_4 s h
    | 5, h => exact List.all_eq_true.mp s_5 s h
    | 6, h => exact List.all_eq_true.mp s_6 s h
    | 0, h => cases h
    | k + 7, h => cases h
  obtain ⟨h1, h⟩ := ba go
  obtain ⟨h2, h⟩ := ba h
  obtain ⟨h3, h⟩ := ba h
  obtain ⟨h4, h⟩ := ba h
  obtain ⟨h5, h⟩ := ba h
  obtain ⟨h6, h⟩ := ba h
  obtain ⟨h7, h8⟩ := ba h
  exact ⟨⟨Pc.chkF h1, Pc.chkF h2, Pc.chkF h3, of_decide_eq_true h5, of_decide_eq_true h6, (of_decide_eq_true h7).symm, of_decide_eq_true h8⟩, of_decide_eq_true h4⟩
theorem size_ok {n : Nat} (h1 : 1 ≤ n) (h6 : n ≤ 6) : Pc tb 5 5 [.int n] (.d .non) := by
  match n, h1, h6 with
  | 1, _, _ => exact Pc.chkF c_1
  | 2, _, _ => exact Pc.chkF c_2
  | 3, _, _ => exact Pc.chkF c_3
  | 4, _, _ => exact Pc.chkF c_4
  | 5, _, _ => exact Pc.chkF c_5
  | 6, _, _ => exact Pc.chkF c_6
  | k + 7, _, h => exact absurd h (by omega)
theorem right_ {n : Nat} (h1 : 1 ≤ n) (h6 : n ≤ 6) {r c : St} (hr : r ∈ sets n) (hc : c ∈ sets n) : Pc tb 10 18 [.int n, sd r, sd c] (.d (.bl true)) := by
  obtain ⟨a1, a2⟩ := setF hr
  obtain ⟨b1, b2⟩ := setF hc
  exact pright (size_ok h1 h6) a1 b1 (setF a2).1 (setF b2).1
theorem all_sets_ {n : Nat} (h1 : 1 ≤ n) (h6 : n ≤ 6) : Pc tb 12 14 [.int n] (.lst ((sets n).map sd)) := by
  match n, h1, h6 with
  | 1, _, _ => exact Pc.chkF e_1
  | 2, _, _ => exact Pc.chkF e_2
  | 3, _, _ => exact Pc.chkF e_3
  | 4, _, _ => exact Pc.chkF e_4
  | 5, _, _ => exact Pc.chkF e_5
  | 6, _, _ => exact Pc.chkF e_6
  | k + 7, _, h => exact absurd h (by omega)
theorem due_ {n : Nat} (h1 : 1 ≤ n) (h6 : n ≤ 6) : Pc tb 12 16 [.fl ((sets n).map sd)] (.d (.tup ((due n).map pd))) := by
  match n, h1, h6 with
  | 1, _, _ => exact Pc.chkF d_1
  | 2, _, _ => exact Pc.chkF d_2
  | 3, _, _ => exact Pc.chkF d_3
  | 4, _, _ => exact Pc.chkF d_4
  | 5, _, _ => exact Pc.chkF d_5
  | 6, _, _ => exact Pc.chkF d_6
  | k + 7, _, h => exact absurd h (by omega)
theorem prods {n : Nat} (h1 : 1 ≤ n) (h6 : n ≤ 6) : Pc tb 13 7 [.int n] (.d (.tup ((due n).map pd))) := by
  match n, h1, h6 with
  | 1, _, _ => exact (Pc.chkF p_1).more (by omega)
  | 2, _, _ => exact (Pc.chkF p_2).more (by omega)
  | 3, _, _ => exact (Pc.chkF p_3).more (by omega)
  | 4, _, _ => exact (Pc.chkF p_4).more (by omega)
  | 5, _, _ => exact (Pc.chkF p_5).more (by omega)
  | 6, _, _ =>
    refine Pc.tabF (n := 12) (fun q hq => ?_) p_6
    have a := List.all_eq_true.mp a_6
    simp only [memo6, List.mem_cons, List.not_mem_nil, or_false] at hq
    rcases hq with rfl | rfl | rfl | rfl | rfl | rfl | rfl
    · exact (Pc.chkF c_6).more (by omega)
    · exact (Pc.chkF (a 1 (by decide))).more (by omega)
    · exact (Pc.chkF (a 2 (by decide))).more (by omega)
    · exact (Pc.chkF (a 3 (by decide))).more (by omega)
    · exact (Pc.chkF (a 4 (by decide))).more (by omega)
    · exact (Pc.chkF (a 5 (by decide))).more (by omega)
    · exact (Pc.chkF (a 6 (by decide))).more (by omega)
  | k + 7, _, h => exact absurd h (by omega)
theorem pd_kks : ∀ l : List (St × St), D.kks (l.map pd) = true
  | [] => rfl
  | p :: l => by simp only [List.map_cons, D.kks, pd_kk, pd_kks l, Bool.and_self]
theorem pd_deps : ∀ l : List (St × St), D.deps (l.map pd) ≤ 2
  | [] => Nat.zero_le _
  | p :: l => by simp only [List.map_cons, D.deps, pd_dep]; exact Nat.max_le.mpr ⟨Nat.le_refl _, pd_deps l⟩
theorem due_ek (l : List (St × St)) : (D.tup (l.map pd)).ek = true := by
  unfold D.ek
  simp only [D.kk, D.dep, pd_kks, Bool.true_and]
  have := pd_deps l
  exact decide_eq_true (by omega)
theorem ne_same {a : D} (ha : a.ek = true) (h : Hh) : cmpK .ne (.d a) (.d a) h = .ok (.d (.bl false)) h := by
  rw [cmp_ne_k ha ha, D.beqA_refl (ba ha).1]; rfl
theorem eq_same {a : D} (ha : a.ek = true) (h : Hh) : cmpK .eq (.d a) (.d a) h = .ok (.d (.bl true)) h := by
  rw [cmp_eq_k ha ha, D.beqA_refl (ba ha).1]
end Cw.K34
end

section
set_option Elab.async false
set_option linter.all false
set_option maxRecDepth 100000
set_option maxHeartbeats 800000
/-! K34s: the law. -/
open PySem PySem.Spec PyProof.Rows L2 Cw
local macro_rules | `(tactic| walk_at "sy") => `(tactic| simp -implicitDefEqProofs (disch := first | assumption | omega | exact Cw.lek_nil | exact Cw.lek_ints _ | exact Cw.lek_intmap _ _ | (simp only [List.length_map, List.length_range, Cw.line, List.length_append, List.length_cons, List.length_nil]; omega) | decide) only [Cw.R.bind_ok, Cw.R.bind_stuck, Cw.R.bind_exc, Cw.R.bind_ite, Cw.RF.of_ok, Cw.RF.of_stuck, Cw.RF.of_exc, Cw.RF.of_ite, Cw.R.noX_ok, Cw.R.ofO_some, Cw.R.ofO_map, Cw.R.ite_ok, Cw.R.ite_d, Cw.R.ite_bl, Cw.R.ite_int, Cw.seqK_nx, Cw.seqK_rt, Cw.seqK_bk, Cw.seqK_ct, Cw.seqK_exc, Cw.seqK_ite, Cw.runK_rt, Cw.runK_nx, Cw.runK_exc, Cw.runK_ite, Cw.iteK_t, Cw.iteK_f, Cw.iteK_dec, Cw.iteK_nt, Cw.iteK_ite, Cw.iteF_t, Cw.iteF_f, Cw.iteF_dec, Cw.iteF_nt, Cw.iteF_ite, Cw.chnK_t, Cw.chnK_f, Cw.chnK_dec, Cw.bndK_some, Cw.bound_t, Cw.bound_f, Cw.toDK_d, Cw.toDK_lst, Cw.toDF_d, Cw.toDF_lst, Cw.getV_some, Cw.negK_int, Cw.ntK_bl, Cw.mutK_lst, Cw.mutK_dct, Cw.mthA_t, Cw.augA_int, Cw.augK_add, Cw.augK_sub, Cw.tixK_ref, Cw.tupK, Cw.lstK, Cw.consK, Cw.consR, Cw.nxK, Cw.rtK, Cw.dropK, Cw.okB, Cw.cBin, Cw.cCmp, Cw.cChn2, Cw.cChn1, Cw.cChn, Cw.cDhn2, Cw.cDhn1, Cw.cDhn, Cw.cIfe, Cw.cIx, Cw.cSl3, Cw.cSl2, Cw.cSl1, Cw.cSl0, Cw.cSl, Cw.cCall2, Cw.cCall, Cw.cMth, Cw.cLc, Cw.cCons2, Cw.cCons, Cw.cConsR, Cw.cAnd, Cw.cOr, Cw.cZip, Cw.cTix, Cw.sSet2, Cw.sSet, Cw.sIfs, Cw.sFr, Cw.sAug, Cw.ev_v, Cw.ev_c, Cw.ev_g, Cw.ev_no, Cw.ev_tup, Cw.ev_lst, Cw.ev_dct, Cw.ev_lrg, Cw.ev_bin, Cw.ev_neg, Cw.ev_nt, Cw.ev_and, Cw.ev_or, Cw.ev_cmp, Cw.ev_chn, Cw.ev_chn3, Cw.ev_ife, Cw.ev_ix, Cw.ev_sl, Cw.ev_rev, Cw.ev_call, Cw.ev_bi, Cw.ev_isi, Cw.ev_mth, Cw.ev_mut, Cw.ev_lc, Cw.ev_rcmp, Cw.cRc, Cw.rcA, Cw.evs_nil, Cw.evs_cons, Cw.evr_nil, Cw.evr_cons, Cw.eva_one, Cw.eva_cons, Cw.evo_one, Cw.evo_cons, Cw.evi_it, Cw.evi_rng, Cw.evi_enum, Cw.evi_zip, Cw.asg_v, Cw.asg_tup, Cw.asg_ix, Cw.tgts_nil, Cw.tgts_cons, Cw.tgt_v, Cw.tgt_ix, Cw.ex_set, Cw.ex_exp, Cw.ex_ret, Cw.ex_ret0, Cw.ex_pass, Cw.ex_brk, Cw.ex_cnt, Cw.ex_aug, Cw.ex_ifs, Cw.ex_fr, Cw.exs_nil, Cw.exs_cons, Cw.ex_rs, Cw.ex_tr, Cw.excK, Cw.cat_ok, Cw.cat_exc, Cw.cat_ite, Cw.catK_t, Cw.catK_f, Cw.inI_n, Cw.inI_s, Cw.off_n, Cw.off_s, Cw.offF_nx, Cw.offF_rt, Cw.offF_n, Cw.hdl_ret, Cw.hdl_set, Cw.hdl_pass, Cw.hev_v, Cw.hev_c, Cw.hev_fld, Cw.hev_isx, Cw.hev_tup, Cw.hev_bin, Cw.hev_cmp, Cw.hev_and, Cw.hevs_nil, Cw.hevs_cons, Cw.hBin, Cw.hCmp, Cw.hAnd, Cw.hCons2, Cw.hCons, Cw.hSet, Cw.fldK_some, Cw.bin_add, Cw.bin_sub, Cw.bin_mul, Cw.bin_mod, Cw.bin_fdiv, Cw.cmp_lt, Cw.cmp_le, Cw.cmp_gt, Cw.cmp_ge, Cw.cmo_lt, Cw.cmo_le, Cw.cmo_gt, Cw.cmo_ge, Cw.cmp_is_none, Cw.cmp_isnot_none, Cw.cmp_is_bl, Cw.cmp_isnot_bl, Cw.cmp_eq_i, Cw.cmp_ne_i, Cw.cmp_eq_b, Cw.cmp_ne_b, Cw.atD_zero, Cw.atD_one, Cw.atD_two, Cw.atD_three, Cw.ix_tup, Cw.ix_fl, Cw.ix_sc, Cw.ix_lst, Cw.ix_ref, Cw.ixO_lst, Cw.ixO_dcs, Cw.ixO_dci, Cw.bi_len_tup, Cw.bi_len_fl, Cw.bi_len_sc, Cw.bi_len_lst, Cw.bi_len_ref, Cw.lenO_lst, Cw.lenO_dct, Cw.bi_tuple_lst, Cw.bi_tuple_fl, Cw.bi_tuple_tup, Cw.bi_list_lst, Cw.bi_list_tup, Cw.bi_tuple_ref, Cw.seqO_lst, Cw.bi_int, Cw.bi_abs, Cw.bi_max, Cw.bi_min, Cw.bi_all, Cw.bi_any, Cw.bi_sum, Cw.is_int, Cw.is_bl, Cw.is_str, Cw.is_tup, Cw.is_fl, Cw.is_non, Cw.lstAt_e, Cw.src_tup, Cw.src_fl, Cw.src_sc, Cw.src_lst, Cw.items_vals, Cw.rng1, Cw.rng2, Cw.enum_lst, Cw.enum_fl, Cw.zip_tup, Cw.zip_lst, Cw.isTy, Cw.wipeD, Cw.I.isNo, Cw.bin_pow, Cw.cmp_ne_refnil, Cw.cmp_eq_refnil, Cw.nilO_ne, Cw.nilO_eq, Cw.cmp_eq_ll, Cw.cmp_ne_ll, Cw.cmp_eq_fl, Cw.cmp_ne_fl, Cw.cmp_eq_ff, Cw.cmp_ne_ff, Cw.lek_intmap, Cw.lek_ints, Cw.lek_nil, Cw.beqs_nil, Cw.mth_popO, Cw.popO_last, Cw.mth_appO, Cw.appO_lst, Cw.mth_extO, Cw.extO_lst, Cw.putK_O, Cw.putO_lst, Cw.putO_dcs, Cw.putO_dci, Cw.src_refO, Cw.srcO_lst, Cw.items_cellO, Cw.itemsO_lst, Cw.sl_sc, Cw.sl_fl, Cw.sl_lst, Cw.sl_tup, Cw.sl_refO, Cw.slO_lst, Cw.rev_lst, Cw.rev_fl, Cw.rev_tup, Cw.bin_add_tup, Cw.bin_add_lst, Cw.bin_add_fl, Cw.bin_add_ff, Cw.bin_add_lf, Cw.bin_add_ref, Cw.addO_lst, Cw.bin_mul_lst, Cw.call_t, List.getElem?_cons_zero, List.getElem?_cons_succ, List.set_cons_zero, List.set_cons_succ, List.length_cons, List.length_nil, List.nil_append, List.cons_append, List.append_nil, List.map_cons, List.map_nil, List.replicate, Nat.reduceAdd, Nat.reduceSub, Int.reducePow, List.contains_cons, List.contains_nil, Nat.reduceBEq, Nat.reduceLT, List.isEmpty_map, List.isEmpty_nil, List.isEmpty_cons, Nat.reduceEqDiff, Int.reduceNeg, Int.reduceAdd, Int.reduceSub, Int.reduceMul, Int.reduceLT, Int.reduceLE, Int.reduceEq, Int.reduceToNat, Option.isSome_some, Option.map_some, List.any_cons, List.any_nil, decide_true, decide_false, Bool.or_true, Bool.or_false, Bool.true_or, Bool.false_or, Bool.and_true, Bool.and_false, Bool.true_and, Bool.false_and, Bool.not_true, Bool.not_false, if_true, if_false, ite_true, ite_false, reduceIte, eq_self, Bool.not_eq_true, Bool.false_eq_true, decide_eq_true_eq, *])
local macro_rules | `(tactic| walk_at "sz") => `(tactic| simp -implicitDefEqProofs (disch := first | assumption | omega | exact Cw.lek_nil | exact Cw.lek_ints _ | exact Cw.lek_intmap _ _ | (simp only [List.length_map, List.length_range, Cw.line, List.length_append, List.length_cons, List.length_nil]; omega) | decide) only [Cw.R.bind_ok, Cw.R.bind_stuck, Cw.R.bind_exc, Cw.R.bind_ite, Cw.RF.of_ok, Cw.RF.of_stuck, Cw.RF.of_exc, Cw.RF.of_ite, Cw.R.noX_ok, Cw.R.ofO_some, Cw.R.ofO_map, Cw.R.ite_ok, Cw.R.ite_d, Cw.R.ite_bl, Cw.R.ite_int, Cw.seqK_nx, Cw.seqK_rt, Cw.seqK_bk, Cw.seqK_ct, Cw.seqK_exc, Cw.seqK_ite, Cw.runK_rt, Cw.runK_nx, Cw.runK_exc, Cw.runK_ite, Cw.iteK_t, Cw.iteK_f, Cw.iteK_dec, Cw.iteK_nt, Cw.iteK_ite, Cw.iteF_t, Cw.iteF_f, Cw.iteF_dec, Cw.iteF_nt, Cw.iteF_ite, Cw.chnK_t, Cw.chnK_f, Cw.chnK_dec, Cw.bndK_some, Cw.bound_t, Cw.bound_f, Cw.toDK_d, Cw.toDK_lst, Cw.toDF_d, Cw.toDF_lst, Cw.getV_some, Cw.negK_int, Cw.ntK_bl, Cw.mutK_lst, Cw.mutK_dct, Cw.mthA_t, Cw.augA_int, Cw.augK_add, Cw.augK_sub, Cw.tixK_ref, Cw.tupK, Cw.lstK, Cw.consK, Cw.consR, Cw.nxK, Cw.rtK, Cw.dropK, Cw.okB, Cw.cBin, Cw.cCmp, Cw.cChn2, Cw.cChn1, Cw.cChn, Cw.cDhn2, Cw.cDhn1, Cw.cDhn, Cw.cIfe, Cw.cIx, Cw.cSl3, Cw.cSl2, Cw.cSl1, Cw.cSl0, Cw.cSl, Cw.cCall2, Cw.cCall, Cw.cMth, Cw.cLc, Cw.cCons2, Cw.cCons, Cw.cConsR, Cw.cAnd, Cw.cOr, Cw.cZip, Cw.cTix, Cw.sSet2, Cw.sSet, Cw.sIfs, Cw.sFr, Cw.sAug, Cw.ev_v, Cw.ev_c, Cw.ev_g, Cw.ev_no, Cw.ev_tup, Cw.ev_lst, Cw.ev_dct, Cw.ev_lrg, Cw.ev_bin, Cw.ev_neg, Cw.ev_nt, Cw.ev_and, Cw.ev_or, Cw.ev_cmp, Cw.ev_chn, Cw.ev_chn3, Cw.ev_ife, Cw.ev_ix, Cw.ev_sl, Cw.ev_rev, Cw.ev_call, Cw.ev_bi, Cw.ev_isi, Cw.ev_mth, Cw.ev_mut, Cw.ev_lc, Cw.ev_rcmp, Cw.cRc, Cw.rcA, Cw.evs_nil, Cw.evs_cons, Cw.evr_nil, Cw.evr_cons, Cw.eva_one, Cw.eva_cons, Cw.evo_one, Cw.evo_cons, Cw.evi_it, Cw.evi_rng, Cw.evi_enum, Cw.evi_zip, Cw.asg_v, Cw.asg_tup, Cw.asg_ix, Cw.tgts_nil, Cw.tgts_cons, Cw.tgt_v, Cw.tgt_ix, Cw.ex_set, Cw.ex_exp, Cw.ex_ret, Cw.ex_ret0, Cw.ex_pass, Cw.ex_brk, Cw.ex_cnt, Cw.ex_aug, Cw.ex_ifs, Cw.ex_fr, Cw.exs_nil, Cw.exs_cons, Cw.ex_rs, Cw.ex_tr, Cw.excK, Cw.cat_ok, Cw.cat_exc, Cw.cat_ite, Cw.catK_t, Cw.catK_f, Cw.inI_n, Cw.inI_s, Cw.off_n, Cw.off_s, Cw.offF_nx, Cw.offF_rt, Cw.offF_n, Cw.hdl_ret, Cw.hdl_set, Cw.hdl_pass, Cw.hev_v, Cw.hev_c, Cw.hev_fld, Cw.hev_isx, Cw.hev_tup, Cw.hev_bin, Cw.hev_cmp, Cw.hev_and, Cw.hevs_nil, Cw.hevs_cons, Cw.hBin, Cw.hCmp, Cw.hAnd, Cw.hCons2, Cw.hCons, Cw.hSet, Cw.fldK_some, Cw.bin_add, Cw.bin_sub, Cw.bin_mul, Cw.bin_mod, Cw.bin_fdiv, Cw.cmp_lt, Cw.cmp_le, Cw.cmp_gt, Cw.cmp_ge, Cw.cmo_lt, Cw.cmo_le, Cw.cmo_gt, Cw.cmo_ge, Cw.cmp_is_none, Cw.cmp_isnot_none, Cw.cmp_is_bl, Cw.cmp_isnot_bl, Cw.cmp_eq_i, Cw.cmp_ne_i, Cw.cmp_eq_b, Cw.cmp_ne_b, Cw.atD_zero, Cw.atD_one, Cw.atD_two, Cw.atD_three, Cw.ix_tup, Cw.ix_fl, Cw.ix_sc, Cw.ix_lst, Cw.ix_ref, Cw.ixO_lst, Cw.ixO_dcs, Cw.ixO_dci, Cw.bi_len_tup, Cw.bi_len_fl, Cw.bi_len_sc, Cw.bi_len_lst, Cw.bi_len_ref, Cw.lenO_lst, Cw.lenO_dct, Cw.bi_tuple_lst, Cw.bi_tuple_fl, Cw.bi_tuple_tup, Cw.bi_list_lst, Cw.bi_list_tup, Cw.bi_tuple_ref, Cw.seqO_lst, Cw.bi_int, Cw.bi_abs, Cw.bi_max, Cw.bi_min, Cw.bi_all, Cw.bi_any, Cw.bi_sum, Cw.is_int, Cw.is_bl, Cw.is_str, Cw.is_tup, Cw.is_fl, Cw.is_non, Cw.lstAt_e, Cw.src_tup, Cw.src_fl, Cw.src_sc, Cw.src_lst, Cw.items_vals, Cw.rng1, Cw.rng2, Cw.enum_lst, Cw.enum_fl, Cw.zip_tup, Cw.zip_lst, Cw.isTy, Cw.wipeD, Cw.I.isNo, Cw.bin_pow, Cw.cmp_ne_refnil, Cw.cmp_eq_refnil, Cw.nilO_ne, Cw.nilO_eq, Cw.cmp_eq_ll, Cw.cmp_ne_ll, Cw.cmp_eq_fl, Cw.cmp_ne_fl, Cw.cmp_eq_ff, Cw.cmp_ne_ff, Cw.lek_intmap, Cw.lek_ints, Cw.lek_nil, Cw.beqs_nil, Cw.mth_popO, Cw.popO_last, Cw.mth_appO, Cw.appO_lst, Cw.mth_extO, Cw.extO_lst, Cw.putK_O, Cw.putO_lst, Cw.putO_dcs, Cw.putO_dci, Cw.src_refO, Cw.srcO_lst, Cw.items_cellO, Cw.itemsO_lst, Cw.sl_sc, Cw.sl_fl, Cw.sl_lst, Cw.sl_tup, Cw.sl_refO, Cw.slO_lst, Cw.rev_lst, Cw.rev_fl, Cw.rev_tup, Cw.bin_add_tup, Cw.bin_add_lst, Cw.bin_add_fl, Cw.bin_add_ff, Cw.bin_add_lf, Cw.bin_add_ref, Cw.addO_lst, Cw.bin_mul_lst, Cw.call_t, List.getElem?_cons_zero, List.getElem?_cons_succ, List.set_cons_zero, List.set_cons_succ, List.length_cons, List.length_nil, List.nil_append, List.cons_append, List.append_nil, List.map_cons, List.map_nil, List.replicate, Nat.reduceAdd, Nat.reduceSub, Int.reducePow, List.contains_cons, List.contains_nil, Nat.reduceBEq, Nat.reduceLT, List.isEmpty_map, List.isEmpty_nil, List.isEmpty_cons, Nat.reduceEqDiff, Int.reduceNeg, Int.reduceAdd, Int.reduceSub, Int.reduceMul, Int.reduceLT, Int.reduceLE, Int.reduceEq, Int.reduceToNat, Option.isSome_some, Option.map_some, List.any_cons, List.any_nil, decide_true, decide_false, Bool.or_true, Bool.or_false, Bool.true_or, Bool.false_or, Bool.and_true, Bool.and_false, Bool.true_and, Bool.false_and, Bool.not_true, Bool.not_false, if_true, if_false, ite_true, ite_false, reduceIte, eq_self, Bool.not_eq_true, Bool.false_eq_true, decide_eq_true_eq])
namespace Cw.K34
def ls (i : Nat) : S := f20.body.getD i .pass
theorem body20 : f20.body = [ls 0, ls 1, ls 2, ls 3, ls 4, ls 5, ls 6, ls 7, ls 8] := rfl
theorem due_in {n : Nat} : In n (due n) := fun p hp => by
  unfold due at hp
  obtain ⟨r, hr, h⟩ := List.mem_flatMap.mp hp
  split at h
  · obtain ⟨c, hc, rfl⟩ := List.mem_map.mp h
    exact ⟨hr, (List.mem_filter.mp hc).1⟩
  · cases h
/-- the walk over the pairs -/
theorem loop7 {n : Nat} (h1 : 1 ≤ n) (h6 : n ≤ 6) {its : List (St × St)} (hi : In n its) {c : List Int} {m t : Int} (sc E U x6 x7 x8 : Option D) : ∃ σ', forL (.tup [(.v 6), (.v 7)]) (exs (runB tb 15) [.ifs (.nt (.call false 18 "_law_pair_right" [(.v 2), (.v 6), (.v 7)] [] [])) [.ret (.c (.bl false))] []]) (.cell 2) (its.map pd) 0 [sc, some (.ref 1), some (.int n), E, U, U, x6, x7, x8] (dk c m t [.lst (its.map pd)]) = .ok (.nx σ') (dk c m t [.lst (its.map pd)]) ∧ ∃ y6 y7, σ' = [sc, some (.ref 1), some (.int n), E, U, U, y6, y7, x8] := by
  refine forL_still0 (.inr ⟨2, rfl, rfl⟩) (fun σ => ∃ y6 y7, σ = [sc, some (.ref 1), some (.int n), E, U, U, y6, y7, x8]) ⟨x6, x7, rfl⟩ fun x hx σ ⟨y6, y7, e⟩ => ?_
  obtain ⟨p, hp, rfl⟩ := List.mem_map.mp hx
  subst e
  have c1 := ((right_ h1 h6 (hi p hp).1 (hi p hp).2).more (n := 15) (by omega)).eq
  refine ⟨_, _, rfl, .inl ?_, some (sd p.1), some (sd p.2), rfl⟩
  show exs (runB tb 15) _ [sc, some (.ref 1), some (.int n), E, U, U, some (sd p.1), some (sd p.2), x8] _ = _
  clear hi hp hx
  walk_at "sy"
/-- the walk over three products: no bools -/
theorem loop6 {n : Nat} (h6 : n ≤ 6) {its : List (St × St)} (hi : In n its) {H : Hh} (sc E U x6 x7 x8 : Option D) : ∃ σ', forL (.tup [(.v 6), (.v 7)]) (exs (runB tb 15) [.ifs (.cmp .ne (.lc (.v 8) (.v 8) (.it (.bin .add (.v 6) (.v 7))) (.isi (.v 8) [.bool]) [("place", 8)]) (.lst [])) [.ret (.c (.bl false))] []]) (.vals (its.map pd)) (its.map pd) 0 [sc, some (.ref 1), some (.int n), E, U, U, x6, x7, x8] H = .ok (.nx σ') H ∧ ∃ y6 y7, σ' = [sc, some (.ref 1), some (.int n), E, U, U, y6, y7, x8] := by
  refine forL_still0 (.inl ⟨_, rfl⟩) (fun σ => ∃ y6 y7, σ = [sc, some (.ref 1), some (.int n), E, U, U, y6, y7, x8]) ⟨x6, x7, rfl⟩ fun x hx σ ⟨y6, y7, e⟩ => ?_
  obtain ⟨⟨a, b⟩, hp, rfl⟩ := List.mem_map.mp hx
  subst e
  have la := (setF (hi _ hp).1).1.len
  have lb := (setF (hi _ hp).2).1.len
  have ad : ∀ h, binK .add (.d (sd a)) (.d (sd b)) h = .ok (.d (.tup ((a ++ b).map fun (i : Nat) => D.int i))) h := fun h => by
    have := bin_add_tup (a.map fun (i : Nat) => D.int i) (b.map fun (i : Nat) => D.int i) h (by rw [List.length_map, List.length_map]; unfold line; simp only at la lb; omega)
    rw [List.map_append]
    exact this
  refine ⟨_, _, rfl, .inl ?_, some (sd a), some (sd b), rfl⟩
  show exs (runB tb 15) _ [sc, some (.ref 1), some (.int n), E, U, U, some (sd a), some (sd b), x8] H = _
  have ht : ∀ ys, turns (.v 8) (ev (runB tb 15) (.isi (.v 8) [.bool])) (ev (runB tb 15) (.v 8)) (.vals ys) [sc, some (.ref 1), some (.int n), E, U, U, some (sd a), some (sd b), none] ((a ++ b).map fun (i : Nat) => D.int i) 0 H = .ok [] H := fun ys => by
    have := turns_mapT (t := .v 8) (c := ev (runB tb 15) (.isi (.v 8) [.bool])) (e := ev (runB tb 15) (.v 8)) (all := ys) (σ := [sc, some (.ref 1), some (.int n), E, U, U, some (sd a), some (sd b), none]) (h := H) (fun (i : Nat) => D.int i) (fun _ => false) (fun (i : Nat) => D.int i) (a ++ b) 0 (fun x _ => ⟨_, rfl, by clear ad la lb hx hp hi; walk_at "sy", fun z => nomatch z⟩)
    rw [this]
    simp
  clear la lb hx hp hi
  walk_at "sy"
theorem ends_of {l : List (St × St)} (h : l ≠ []) : ∃ p q, p ∈ l ∧ q ∈ l ∧ atD (l.map pd) 0 = some (pd p) ∧ atD (l.map pd) (-1) = some (pd q) := by
  obtain ⟨q, hq⟩ : ∃ q, l.getLast? = some q := by
    cases e : l.getLast? with
    | none => exact absurd (List.getLast?_eq_none_iff.mp e) h
    | some q => exact ⟨q, rfl⟩
  cases l with
  | nil => exact absurd rfl h
  | cons p r =>
    refine ⟨p, q, List.mem_cons_self, List.mem_of_getLast? hq, atD_zero _ _, ?_⟩
    rw [atD_neg1, List.getLast?_map, hq]; rfl
theorem due_ne {n : Nat} (h1 : 1 ≤ n) (h6 : n ≤ 6) : due n ≠ [] ∧ (due n).length ≤ 1000 := by
  match n, h1, h6 with
  | 1, _, _ => exact ⟨by decide, by decide⟩
  | 2, _, _ => exact ⟨by decide, by decide⟩
  | 3, _, _ => exact ⟨by decide, by decide⟩
  | 4, _, _ => exact ⟨by decide +kernel, by decide +kernel⟩
  | 5, _, _ => exact ⟨by decide +kernel, by decide +kernel⟩
  | 6, _, _ => exact ⟨by decide +kernel, by decide +kernel⟩
  | k + 7, _, h => exact absurd h (by omega)
theorem pickU {k n : Nat} (h1 : 1 ≤ n) (h6 : n ≤ 6) {c : List Int} {m t : Int} (i : DkI c m t) (r : Hh) : ∃ p c', run tb (k + 2) 13 [.ref 1, .tup ((due n).map pd)] (dk c m t r) = .ok (.d (pd p)) (dk c' m (t + 1) r) ∧ p ∈ due n ∧ c'.length ≤ 63 := by
  obtain ⟨e1, e2⟩ := due_ne h1 h6
  obtain ⟨d, c', q1, q2, q3⟩ := pick (k := k) (ds := (due n).map pd) true (fun e => e1 (List.map_eq_nil_iff.mp e)) (by rw [List.length_map]; omega) i r
  obtain ⟨p, hp, rfl⟩ := List.mem_map.mp q2
  exact ⟨p, c', q1, hp, q3⟩
theorem pairs {n : Nat} (h1 : 1 ≤ n) (h6 : n ≤ 6) {c : List Int} {m t : Int} (i : DkI c m t) (ht : t ≤ 1000) : ∃ its c' t', In n its ∧ run tb 15 19 [.ref 1, .int n, .fl ((sets n).map sd)] (dk c m t []) = .ok (.d (.ref 2)) (dk c' m t' [.lst (its.map pd)]) := by
  by_cases h : n < 4
  · obtain ⟨its, hi, e⟩ := pairs_few (k := 14) h (c := c) (m := m) (t := t)
    exact ⟨its, c, t, hi, e⟩
  · exact pairs_many (k := 12) (by omega) h6 i ht
theorem count {n : Nat} (h1 : 1 ≤ n) (h6 : n ≤ 6) : atD [.int 1, .int 3, .int 10, .int 35, .int 126, .int 462] ((n : Int) - 1) = some (D.int ((due n).length : Nat)) := by
  match n, h1, h6 with
  | 1, _, _ => rw [show (due 1).length = 1 from by decide]; rfl
  | 2, _, _ => rw [show (due 2).length = 3 from by decide]; rfl
  | 3, _, _ => rw [show (due 3).length = 10 from by decide]; rfl
  | 4, _, _ => rw [show (due 4).length = 35 from by decide +kernel]; rfl
  | 5, _, _ => rw [show (due 5).length = 126 from by decide +kernel]; rfl
  | 6, _, _ => rw [show (due 6).length = 462 from by decide +kernel]; rfl
  | k + 7, _, h => exact absurd h (by omega)
/-- the law behind the draw of n -/
theorem rest {n : Nat} (h1 : 1 ≤ n) (h6 : n ≤ 6) {c : List Int} {m t : Int} (i : DkI c m t) (ht : t ≤ 10) (sc : D) : ∃ h', runK (exs (runB tb 15) [ls 2, ls 3, ls 4, ls 5, ls 6, ls 7, ls 8] [some sc, some (.ref 1), some (.int n), none, none, none, none, none, none] (dk c m t [])) = .ok (.d (.bl true)) h' := by
  have cS := ((all_sets_ h1 h6).more (n := 15) (by omega)).eq
  have cD := ((due_ h1 h6).more (n := 15) (by omega)).eq
  have cP := ((prods h1 h6).more (n := 15) (by omega)).eq
  have cC := count h1 h6
  have uE := eq_same (due_ek (due n))
  have uN := ne_same (due_ek (due n))
  obtain ⟨p, q, hp, hq, a0, a1⟩ := ends_of (due_ne h1 h6).1
  obtain ⟨u, c1, e1, hu, l1⟩ := pickU (k := 13) h1 h6 i []
  have i1 := i.next l1 (by omega)
  obtain ⟨its, c2, t2, hi, e2⟩ := pairs h1 h6 i1 (by omega)
  have tri : In n [p, q, u] := fun x hx => by
    simp only [List.mem_cons, List.not_mem_nil, or_false] at hx
    rcases hx with rfl | rfl | rfl
    · exact due_in _ hp
    · exact due_in _ hq
    · exact due_in _ hu
  obtain ⟨σ6, f6, y6, y7, rfl⟩ := loop6 h6 tri (H := dk c1 m (t + 1) []) (some sc) (some (.fl ((sets n).map sd))) (some (.tup ((due n).map pd))) none none none
  obtain ⟨σ7, f7, z6, z7, rfl⟩ := loop7 h1 h6 hi (c := c2) (m := m) (t := t2) (some sc) (some (.fl ((sets n).map sd))) (some (.tup ((due n).map pd))) y6 y7 none
  simp only [List.map_cons, List.map_nil] at f6
  have uL : ∀ h, biK .len [.d (.tup ((due n).map pd))] h = .ok (.d (.int ((due n).length : Nat))) h := fun h => by rw [bi_len_tup, List.length_map]
  have g2 : (dk c2 m t2 [.lst (its.map pd)])[2]? = some (.lst (its.map pd)) := rfl
  refine ⟨dk c2 m t2 [.lst (its.map pd)], ?_⟩
  simp only [ls, f20, List.getD_cons_succ, List.getD_cons_zero]
  clear hp hq hu hi tri i i1 ht l1
  generalize (due n).map pd = U at *
  walk_at "sy"
theorem run_law : ∀ ns : List Int, ns.length ≤ 63 → ∃ h', run tb 16 20 [.sc (ns.map D.int)] [] = .ok (.d (.bl true)) h' := fun ns hl => by
  obtain ⟨m, e0, ma, mb⟩ := deck (k := 14) ns hl
  have i0 : DkI (ns.map cut).reverse m 0 := ⟨by simpa using hl, ma, mb, by omega, by omega⟩
  obtain ⟨d, c1, e1, hd, l1⟩ := pick (k := 13) (ds := [.int 3, .int 2, .int 4, .int 3, .int 1, .int 4, .int 5, .int 2, .int 3, .int 6, .int 4, .int 5]) true (by simp) (by simp) i0 []
  have i1 := i0.next l1 (by omega)
  obtain ⟨n, h1, h6, rfl⟩ : ∃ n : Nat, 1 ≤ n ∧ n ≤ 6 ∧ d = .int n := by
    simp only [List.mem_cons, List.not_mem_nil, or_false] at hd
    rcases hd with rfl | rfl | rfl | rfl | rfl | rfl | rfl | rfl | rfl | rfl | rfl | rfl
    · exact ⟨3, by omega, by omega, rfl⟩
    · exact ⟨2, by omega, by omega, rfl⟩
    · exact ⟨4, by omega, by omega, rfl⟩
    · exact ⟨3, by omega, by omega, rfl⟩
    · exact ⟨1, by omega, by omega, rfl⟩
    · exact ⟨4, by omega, by omega, rfl⟩
    · exact ⟨5, by omega, by omega, rfl⟩
    · exact ⟨2, by omega, by omega, rfl⟩
    · exact ⟨3, by omega, by omega, rfl⟩
    · exact ⟨6, by omega, by omega, rfl⟩
    · exact ⟨4, by omega, by omega, rfl⟩
    · exact ⟨5, by omega, by omega, rfl⟩
  obtain ⟨h', fin⟩ := rest h1 h6 i1 (by omega) (.sc (ns.map D.int))
  have dd : ∀ (c : List Int) (m t : Int), O.lst (c.map D.int) :: [O.dct [(.inr "rest", .ref 0), (.inr "mixed", .int m), (.inr "turn", .int t)]] = dk c m t [] := fun _ _ _ => rfl
  refine ⟨h', ?_⟩
  rw [run_def (fn := f20) rfl rfl, body20]
  generalize hR : [ls 2, ls 3, ls 4, ls 5, ls 6, ls 7, ls 8] = R at fin
  simp only [if_true] at e1
  have key : exs (runB tb 15) (ls 0 :: ls 1 :: R) [some (.sc (ns.map D.int)), none, none, none, none, none, none, none, none] [] = exs (runB tb 15) R [some (.sc (ns.map D.int)), some (.ref 1), some (.int n), none, none, none, none, none, none] (dk c1 m (0 + 1) []) := by
    simp only [ls, f20, List.getD_cons_succ, List.getD_cons_zero]
    clear hR hl ma mb i0 i1 fin hd
    walk_at "sy"
  show runK (exs (runB tb 15) (ls 0 :: ls 1 :: R) [some (.sc (ns.map D.int)), none, none, none, none, none, none, none, none] []) = _
  rw [key, fin]
end Cw.K34
end

section
set_option Elab.async false
set_option linter.all false
set_option maxRecDepth 100000
set_option maxHeartbeats 0
namespace Cw.K34
open PySem PySem.Spec PyProof.Rows L2 Cw
def top (i : Nat) : Stmt := PySem.Challenge.pw_crowdways_k34_whole_products_of_a_size.main.body.getD i (.Pass ⟨0, 0, 0, 0⟩)
def r0 : Row := ⟨0, ⟨("is_whole", none), "is_whole", "is_whole", defArgs (top 6), defBody (top 6), defScope (top 6), [], []⟩, f0⟩
def r1 : Row := ⟨1, ⟨("is_size", none), "is_size", "is_size", defArgs (top 7), defBody (top 7), defScope (top 7), [], []⟩, f1⟩
def r2 : Row := ⟨2, ⟨("is_set", none), "is_set", "is_set", defArgs (top 8), defBody (top 8), defScope (top 8), [], []⟩, f2⟩
def r3 : Row := ⟨3, ⟨("all_sets", none), "all_sets", "all_sets", defArgs (top 9), defBody (top 9), defScope (top 9), [], []⟩, f3⟩
def r4 : Row := ⟨4, ⟨("others", none), "others", "others", defArgs (top 10), defBody (top 10), defScope (top 10), [], []⟩, f4⟩
def r5 : Row := ⟨5, ⟨("check_size", none), "check_size", "check_size", defArgs (top 13), defBody (top 13), defScope (top 13), [], []⟩, f5⟩
def r6 : Row := ⟨6, ⟨("is_product", none), "is_product", "is_product", defArgs (top 14), defBody (top 14), defScope (top 14), [], []⟩, f6⟩
def r7 : Row := ⟨7, ⟨("products", none), "products", "products", defArgs (top 15), defBody (top 15), defScope (top 15), [], []⟩, f7⟩
def r8 : Row := ⟨8, ⟨("told", none), "told", "told", defArgs (top 16), defBody (top 16), defScope (top 16), [], []⟩, f8⟩
def r9 : Row := ⟨9, ⟨("product_of", none), "product_of", "product_of", defArgs (top 17), defBody (top 17), defScope (top 17), [], []⟩, f9⟩
def r10 : Row := ⟨10, ⟨("other_company", none), "other_company", "other_company", defArgs (top 18), defBody (top 18), defScope (top 18), [], []⟩, f10⟩
def r11 : Row := ⟨11, ⟨("_law_deck", none), "_law_deck", "_law_deck", defArgs (top 20), defBody (top 20), defScope (top 20), [], []⟩, f11⟩
def r12 : Row := ⟨12, ⟨("_law_draw", none), "_law_draw", "_law_draw", defArgs (top 21), defBody (top 21), defScope (top 21), [], []⟩, f12⟩
def r13 : Row := ⟨13, ⟨("_law_pick", none), "_law_pick", "_law_pick", defArgs (top 22), defBody (top 22), defScope (top 22), [], []⟩, f13⟩
def r14 : Row := ⟨14, ⟨("_law_sets", none), "_law_sets", "_law_sets", defArgs (top 23), defBody (top 23), defScope (top 23), [], []⟩, f14⟩
def r15 : Row := ⟨15, ⟨("_law_left", none), "_law_left", "_law_left", defArgs (top 24), defBody (top 24), defScope (top 24), [], []⟩, f15⟩
def r16 : Row := ⟨16, ⟨("_law_due", none), "_law_due", "_law_due", defArgs (top 25), defBody (top 25), defScope (top 25), [], []⟩, f16⟩
def r17 : Row := ⟨17, ⟨("_law_is_refused", none), "_law_is_refused", "_law_is_refused", defArgs (top 26), defBody (top 26), defScope (top 26), [], []⟩, f17⟩
def r18 : Row := ⟨18, ⟨("_law_pair_right", none), "_law_pair_right", "_law_pair_right", defArgs (top 27), defBody (top 27), defScope (top 27), [], []⟩, f18⟩
def r19 : Row := ⟨19, ⟨("_law_pairs", none), "_law_pairs", "_law_pairs", defArgs (top 28), defBody (top 28), defScope (top 28), [], []⟩, f19⟩
def r20 : Row := ⟨20, ⟨("law", none), "law", "law", defArgs (top 29), defBody (top 29), defScope (top 29), [], []⟩, f20⟩
def rows : List Row := [r0, r1, r2, r3, r4, r5, r6, r7, r8, r9, r10, r11, r12, r13, r14, r15, r16, r17, r18, r19, r20]
theorem ok0 : r0.ok ck = true := by decide +kernel
theorem ok1 : r1.ok ck = true := by decide +kernel
theorem ok2 : r2.ok ck = true := by decide +kernel
theorem ok3 : r3.ok ck = true := by decide +kernel
theorem ok4 : r4.ok ck = true := by decide +kernel
theorem ok5 : r5.ok ck = true := by decide +kernel
theorem ok6 : r6.ok ck = true := by decide +kernel
theorem ok7 : r7.ok ck = true := by decide +kernel
theorem ok8 : r8.ok ck = true := by decide +kernel
theorem ok9 : r9.ok ck = true := by decide +kernel
theorem ok10 : r10.ok ck = true := by decide +kernel
theorem ok11 : r11.ok ck = true := by decide +kernel
theorem ok12 : r12.ok ck = true := by decide +kernel
theorem ok13 : r13.ok ck = true := by decide +kernel
theorem ok14 : r14.ok ck = true := by decide +kernel
theorem ok15 : r15.ok ck = true := by decide +kernel
theorem ok16 : r16.ok ck = true := by decide +kernel
theorem ok17 : r17.ok ck = true := by decide +kernel
theorem ok18 : r18.ok ck = true := by decide +kernel
theorem ok19 : r19.ok ck = true := by decide +kernel
theorem ok20 : r20.ok ck = true := by decide +kernel
theorem pl0 : Plain r0.d.params r0.fn.ps := fun _ _ _ _ _ _ _ _ _ _ l k h h2 => match l, k, h, h2 with | [_], 0, _, _ => rfl | [_], 1, _, _ => rfl | [_], k + 2, _, h => absurd (show k + 2 ≤ 1 from h) (by omega)
theorem pl1 : Plain r1.d.params r1.fn.ps := fun _ _ _ _ _ _ _ _ _ _ l k h h2 => match l, k, h, h2 with | [_, _], 0, _, _ => rfl | [_, _], 1, _, _ => rfl | [_, _], 2, _, _ => rfl | [_, _], k + 3, _, h => absurd (show k + 3 ≤ 2 from h) (by omega)
theorem pl2 : Plain r2.d.params r2.fn.ps := fun _ _ _ _ _ _ _ _ _ _ l k h h2 => match l, k, h, h2 with | [_, _], 0, _, _ => rfl | [_, _], 1, _, _ => rfl | [_, _], 2, _, _ => rfl | [_, _], k + 3, _, h => absurd (show k + 3 ≤ 2 from h) (by omega)
theorem pl3 : Plain r3.d.params r3.fn.ps := fun _ _ _ _ _ _ _ _ _ _ l k h h2 => match l, k, h, h2 with | [_, _], 0, _, _ => rfl | [_, _], 1, _, _ => rfl | [_, _], 2, _, _ => rfl | [_, _], k + 3, _, h => absurd (show k + 3 ≤ 2 from h) (by omega)
theorem pl4 : Plain r4.d.params r4.fn.ps := fun _ _ _ _ _ _ _ _ _ _ l k h h2 => match l, k, h, h2 with | [_, _], 0, _, _ => rfl | [_, _], 1, _, _ => rfl | [_, _], 2, _, _ => rfl | [_, _], k + 3, _, h => absurd (show k + 3 ≤ 2 from h) (by omega)
theorem pl5 : Plain r5.d.params r5.fn.ps := fun _ _ _ _ _ _ _ _ _ _ l k h h2 => match l, k, h, h2 with | [_], 0, _, _ => rfl | [_], 1, _, _ => rfl | [_], k + 2, _, h => absurd (show k + 2 ≤ 1 from h) (by omega)
theorem pl6 : Plain r6.d.params r6.fn.ps := fun _ _ _ _ _ _ _ _ _ _ l k h h2 => match l, k, h, h2 with | [_, _], 0, _, _ => rfl | [_, _], 1, _, _ => rfl | [_, _], 2, _, _ => rfl | [_, _], k + 3, _, h => absurd (show k + 3 ≤ 2 from h) (by omega)
theorem pl7 : Plain r7.d.params r7.fn.ps := fun _ _ _ _ _ _ _ _ _ _ l k h h2 => match l, k, h, h2 with | [_], 0, _, _ => rfl | [_], 1, _, _ => rfl | [_], k + 2, _, h => absurd (show k + 2 ≤ 1 from h) (by omega)
theorem pl8 : Plain r8.d.params r8.fn.ps := fun _ _ _ _ _ _ _ _ _ _ l k h h2 => match l, k, h, h2 with | [_, _, _], 0, _, _ => rfl | [_, _, _], 1, _, _ => rfl | [_, _, _], 2, _, _ => rfl | [_, _, _], 3, _, _ => rfl | [_, _, _], k + 4, _, h => absurd (show k + 4 ≤ 3 from h) (by omega)
theorem pl9 : Plain r9.d.params r9.fn.ps := fun _ _ _ _ _ _ _ _ _ _ l k h h2 => match l, k, h, h2 with | [_, _, _], 0, _, _ => rfl | [_, _, _], 1, _, _ => rfl | [_, _, _], 2, _, _ => rfl | [_, _, _], 3, _, _ => rfl | [_, _, _], k + 4, _, h => absurd (show k + 4 ≤ 3 from h) (by omega)
theorem pl10 : Plain r10.d.params r10.fn.ps := fun _ _ _ _ _ _ _ _ _ _ l k h h2 => match l, k, h, h2 with | [_, _], 0, _, _ => rfl | [_, _], 1, _, _ => rfl | [_, _], 2, _, _ => rfl | [_, _], k + 3, _, h => absurd (show k + 3 ≤ 2 from h) (by omega)
theorem pl11 : Plain r11.d.params r11.fn.ps := fun _ _ _ _ _ _ _ _ _ _ l k h h2 => match l, k, h, h2 with | [_], 0, _, _ => rfl | [_], 1, _, _ => rfl | [_], k + 2, _, h => absurd (show k + 2 ≤ 1 from h) (by omega)
theorem pl12 : Plain r12.d.params r12.fn.ps := fun _ _ _ _ _ _ _ _ _ _ l k h h2 => match l, k, h, h2 with | [_, _], 0, _, _ => rfl | [_, _], 1, _, _ => rfl | [_, _], 2, _, _ => rfl | [_, _], k + 3, _, h => absurd (show k + 3 ≤ 2 from h) (by omega)
theorem pl13 : Plain r13.d.params r13.fn.ps := fun _ _ _ _ _ _ _ _ _ _ l k h h2 => match l, k, h, h2 with | [_, _], 0, _, _ => rfl | [_, _], 1, _, _ => rfl | [_, _], 2, _, _ => rfl | [_, _], k + 3, _, h => absurd (show k + 3 ≤ 2 from h) (by omega)
theorem pl14 : Plain r14.d.params r14.fn.ps := fun _ _ _ _ _ _ _ _ _ _ l k h h2 => match l, k, h, h2 with | [_], 0, _, _ => rfl | [_], 1, _, _ => rfl | [_], k + 2, _, h => absurd (show k + 2 ≤ 1 from h) (by omega)
theorem pl15 : Plain r15.d.params r15.fn.ps := fun _ _ _ _ _ _ _ _ _ _ l k h h2 => match l, k, h, h2 with | [_, _], 0, _, _ => rfl | [_, _], 1, _, _ => rfl | [_, _], 2, _, _ => rfl | [_, _], k + 3, _, h => absurd (show k + 3 ≤ 2 from h) (by omega)
theorem pl16 : Plain r16.d.params r16.fn.ps := fun _ _ _ _ _ _ _ _ _ _ l k h h2 => match l, k, h, h2 with | [_], 0, _, _ => rfl | [_], 1, _, _ => rfl | [_], k + 2, _, h => absurd (show k + 2 ≤ 1 from h) (by omega)
theorem pl17 : Plain r17.d.params r17.fn.ps := fun _ _ _ _ _ _ _ _ _ _ l k h h2 => match l, k, h, h2 with | [_, _, _], 0, _, _ => rfl | [_, _, _], 1, _, _ => rfl | [_, _, _], 2, _, _ => rfl | [_, _, _], 3, _, _ => rfl | [_, _, _], k + 4, _, h => absurd (show k + 4 ≤ 3 from h) (by omega)
theorem pl18 : Plain r18.d.params r18.fn.ps := fun _ _ _ _ _ _ _ _ _ _ l k h h2 => match l, k, h, h2 with | [_, _, _], 0, _, _ => rfl | [_, _, _], 1, _, _ => rfl | [_, _, _], 2, _, _ => rfl | [_, _, _], 3, _, _ => rfl | [_, _, _], k + 4, _, h => absurd (show k + 4 ≤ 3 from h) (by omega)
theorem pl19 : Plain r19.d.params r19.fn.ps := fun _ _ _ _ _ _ _ _ _ _ l k h h2 => match l, k, h, h2 with | [_, _, _], 0, _, _ => rfl | [_, _, _], 1, _, _ => rfl | [_, _, _], 2, _, _ => rfl | [_, _, _], 3, _, _ => rfl | [_, _, _], k + 4, _, h => absurd (show k + 4 ≤ 3 from h) (by omega)
theorem pl20 : Plain r20.d.params r20.fn.ps := fun _ _ _ _ _ _ _ _ _ _ l k h h2 => match l, k, h, h2 with | [_], 0, _, _ => rfl | [_], 1, _, _ => rfl | [_], k + 2, _, h => absurd (show k + 2 ≤ 1 from h) (by omega)
theorem rowsOk : RowsOk ck tb rows := by
  refine ⟨by decide +kernel, rfl, fun r h => ?_, fun r h => ?_, fun r h => ?_⟩
  · simp only [rows, List.mem_cons, List.not_mem_nil, or_false] at h
    rcases h with rfl | rfl | rfl | rfl | rfl | rfl | rfl | rfl | rfl | rfl | rfl | rfl | rfl | rfl | rfl | rfl | rfl | rfl | rfl | rfl | rfl
    · rfl
    · rfl
    · rfl
    · rfl
    · rfl
    · rfl
    · rfl
    · rfl
    · rfl
    · rfl
    · rfl
    · rfl
    · rfl
    · rfl
    · rfl
    · rfl
    · rfl
    · rfl
    · rfl
    · rfl
    · rfl
  · simp only [rows, List.mem_cons, List.not_mem_nil, or_false] at h
    rcases h with rfl | rfl | rfl | rfl | rfl | rfl | rfl | rfl | rfl | rfl | rfl | rfl | rfl | rfl | rfl | rfl | rfl | rfl | rfl | rfl | rfl
    · exact ok0
    · exact ok1
    · exact ok2
    · exact ok3
    · exact ok4
    · exact ok5
    · exact ok6
    · exact ok7
    · exact ok8
    · exact ok9
    · exact ok10
    · exact ok11
    · exact ok12
    · exact ok13
    · exact ok14
    · exact ok15
    · exact ok16
    · exact ok17
    · exact ok18
    · exact ok19
    · exact ok20
  · simp only [rows, List.mem_cons, List.not_mem_nil, or_false] at h
    rcases h with rfl | rfl | rfl | rfl | rfl | rfl | rfl | rfl | rfl | rfl | rfl | rfl | rfl | rfl | rfl | rfl | rfl | rfl | rfl | rfl | rfl
    · exact pl0
    · exact pl1
    · exact pl2
    · exact pl3
    · exact pl4
    · exact pl5
    · exact pl6
    · exact pl7
    · exact pl8
    · exact pl9
    · exact pl10
    · exact pl11
    · exact pl12
    · exact pl13
    · exact pl14
    · exact pl15
    · exact pl16
    · exact pl17
    · exact pl18
    · exact pl19
    · exact pl20
def loose0 : List Str := ["CompanyError", "BadSize", "BadSets", "BadProduct", "is_whole", "is_size", "is_set", "all_sets", "others", "MOST_SIZE", "check_size", "is_product", "products", "told", "product_of", "other_company", "_law_deck", "_law_draw", "_law_pick", "_law_sets", "_law_left", "_law_due", "_law_is_refused", "_law_pair_right", "_law_pairs"]
def loose : List Str := loose0
abbrev LR : PySem.W.OpenRow := PySem.W.OpenLaw.row PySem.Challenge.rw_crowdways_k34_whole_products_of_a_size
abbrev fa : List He.Fa := faOf ck
abbrev fn : List He.DefD := rows.map (·.d)
abbrev file : Str := (PySem.Challenge.rw_crowdways_k34_whole_products_of_a_size).prog.main.file
abbrev hk : PySem.W.Hook := hookE 5 file ck fn
def ob (s : PySem.W.SharedT) : AlE := obsEG 5 file ck fn (HandSHeadRun.getT s)
theorem ob_eq (s : PySem.W.SharedT) : ob s = hk.obs s.abs := obsEG_eq (HandSHeadRun.getT_eq s)
theorem headRun (w : World) : HandSHeadRun.RunEq LR (PySem.W.view LR.prog [29]) hk ob 3000 loose w := by
  intro os
  kernel_rfl
def depth : Nat := 16
end Cw.K34
open PySem PySem.W PySem.Calls PyProof.Rows
theorem PySem.Challenge.cw_crowdways_k34_whole_products_of_a_size_holds : PySem.Challenge.rw_crowdways_k34_whole_products_of_a_size.Holds := by
  w_on; o_law
  refine HandSHeadRun.head_any (r := OpenLaw.row PySem.Challenge.rw_crowdways_k34_whole_products_of_a_size) (q := view (OpenLaw.row PySem.Challenge.rw_crowdways_k34_whole_products_of_a_size).prog [29]) (H := Cw.K34.hk) (ob := Cw.K34.ob) (M := 3000) (loose := Cw.K34.loose) (d := HandSHeadRun.topDef (OpenLaw.row PySem.Challenge.rw_crowdways_k34_whole_products_of_a_size).prog 29) (kwd := []) Cw.K34.ob_eq
    (by kernel_rfl) (fun s => by kernel_rfl) Cw.K34.headRun (by kernel_rfl) (by kernel_rfl) (by kernel_rfl) (by rfl) (by first | assumption | decide +kernel) (by decide +kernel) ⟨rfl, rfl, rfl, rfl, rfl, by decide +kernel⟩ ?hw ?hc
  case hw => w_witness2
  case hc =>
    refine Cw.walk_ofG (l := PySem.Challenge.rw_crowdways_k34_whole_products_of_a_size) (n := 63) (k := Cw.K34.depth + 1) (x := "script") (CX := fun w => L2.CX (PySem.Challenge.rw_crowdways_k34_whole_products_of_a_size).prog w) rfl (by decide) (by kernel_rfl) ⟨rfl, by decide, by decide⟩ ?F (fun _ _ _ _ _ z => Cw.cx_false z)
    intro w mg fa h Y G hmg0
    obtain ⟨K, KX, c, xc⟩ := Y
    have hmg : mg ("law" : PySem.Str) = some (.ref fa) := by
      have e : (HandSHeadRun.topDef (OpenLaw.row PySem.Challenge.rw_crowdways_k34_whole_products_of_a_size).prog 29).name = ("law" : PySem.Str) := by kernel_rfl
      rw [← e]
      exact hmg0
    exact Cw.law_of (c := Cw.csOf Cw.K34.ck K) (k := Cw.K34.depth) Cw.K34.rowsOk KX G c (g := 20) (x := "law") (p := "script") (by decide +kernel) hmg (Cw.xcB_ok KX G (by decide +kernel) xc) Cw.K34.run_law
end
