import PyProof.Rows.All
import Wide.All
import OpenK.AllK
import Wide.FinOn
import KE.KStateDown
import KE.KExcSuper
import HandS.ForMost
import HandS.ExcInit
import HandS.HeadHook2
import HandS.ExcField
import HandS.IsInst
import KE.KExcIs
import HandS.TupAny
import HandS.Style
import HandS.Deep
import HandS.WideBits
import HandS.Wide
import HandS.Conv
import HandS.Strs
import HandS.Zip
import HandS.Dict
import HandS.Head2
import HandS.HeadEnd
import PySem.Challenge.RW_lotkeepers_k00_errors_keep_their_value
set_option Elab.async false
set_option linter.all false
set_option autoImplicit false
set_option maxRecDepth 100000
set_option maxHeartbeats 0

namespace EVX
open PySem PySem.W PySem.Calls PyProof.Rows

/-- the body of the errors' __init__ -/
def initBody (q : List Pos) : List Stmt := [
  .Expr (.Call (.Attribute (.Call (.Name "super" (q.getD 0 default)) [] [] (q.getD 1 default)) "__init__" (q.getD 2 default)) [.Name "value" (q.getD 3 default)] [] (q.getD 4 default)) (q.getD 5 default),
  .Assign [.Attribute (.Name "self" (q.getD 6 default)) "value" (q.getD 7 default)] (.Name "value" (q.getD 8 default)) (q.getD 9 default)]
def initPars (p1 p2 : Pos) : Arguments := { posonlyargs := [], args := [{ arg := "self", annotation := none, pos := p1 }, { arg := "value", annotation := none, pos := p2 }], vararg := none, kwonlyargs := [], kw_defaults := [], kwarg := none, defaults := [] }
def initScope : Scope := { kind := .function, names := [("self", .local), ("value", .local), ("__class__", .free), ("super", .globalImplicit)], isGenerator := false, isCoroutine := false, more := [] }

/-- what the written part says of the errors' base, at D, its __init__ at f -/
structure Base (prog : Program) (K : Frag) (D f : Addr) : Prop where
  fn : ∃ oc od osl qual p1 p2 q kV doc pm an ct cda cc ccl cdd ccs vs tf cl cld csl, K.lookup f = some ⟨oc, od, .func (ksFn "__init__" qual (initPars p1 p2) (initBody q) initScope .none kV doc pm an (.ref cda) ct cc), osl⟩ ∧ codeIn K (.ref cda) qual = true ∧
    K.lookup cda = some ⟨ccl, cdd, .fields vs, ccs⟩ ∧ vs[2]? = some (.str prog.main.file tf) ∧ K.lookup cc = some ⟨cl, cld, .cell (some (.ref D)), csl⟩ ∧ ((q.getD 2 default).endLine == (q.getD 4 default).line) = true
  cls : ∃ cd, clsIn K D = some cd
  sup : nsIn K mainGlobals "super" = some none
  tp : nsIn K cStatics "thirdparty.any" = some none
  top : (prog.main.scope.names.lookup ("super" : Str)).isSome = false
/-- .. of the error's class at C -/
structure Err (K : Frag) (D f C : Addr) : Prop where
  ve : excInitIn K C PySem.HandSPX.veTail "ValueError.__new__" = true
  mro : ∃ cd, clsIn K C = some cd ∧ HandSPX.refsVE cd.mro = true ∧ cd.hasDict = true
  sub : mroIn K C (.ref D) = some true
  ini : ks_superIn K C D "__init__" = some (some (.builtin "ValueError.__init__"))
  isv : subIn K (.ref C) (.type "ValueError") = some true
  val : findIn K (.ref C) "value" = some none
  sa : findIn K (.ref C) "__setattr__" = some (some (.builtin "object.__setattr__"))

section
variable {prog : Program} {w : World} {A : Around} {K : Frag} {D f C : Addr} {mg mb : Str → Option Value} {s : Shared} {e t0 : Addr} {u : Value} {R : Result → Shared → Prop}
/-- __init__(e, u) on a new error -/
theorem init_run (B : Base prog K D f) (X : Err K D f C) (hk : K.In s.heap) (hg : s.heap.Ns mainGlobals mg) (hb : s.heap.Ns builtinsNs mb) (hbm : ∀ x : Str, x ≠ "__name__" → mb x = bootBuiltins x) (hl : s.heap.NoLimit) (hr : A.depth < recursionLimit)
    (he : s.heap.get? e = some (excObj C t0 none .none)) (hne : ∀ a o, K.lookup a = some o → a ≠ e) (hgl : mainGlobals ≠ e) (hbl : builtinsNs ≠ e)
    (h : ∀ h' tk dx t1, (∀ b o, b ≠ e → s.heap.get? b = some o → h'.get? b = some o) → s.heap.objs.size ≤ dx → h'.get? e = some (excObj C t1 (some dx) .none) → h'.Ns1 dx (fun y => if y = "value" then some u else none) →
      R (.ok (.ret .none)) { s with heap := h', toks := tk }) : codeAny (model prog w) A (.call (.ref f) ⟨[.ref e, u], []⟩) R s := by
  obtain ⟨oc, od, osl, qual, p1, p2, q, kV, doc, pm, an, ct, cda, cc, ccl, cdd, ccs, vs, tf, cl, cld, csl, lf, hcd, lc, hvs, lcc, hpos⟩ := B.fn
  obtain ⟨cdD, hD⟩ := B.cls
  have hh0 : K.In (hideAll s.heap [e]) := fun a o z => hideAll_get [e] (hk a o z) (by simpa using hne a o z)
  refine ks_codeAny_call_defAt (binds := [("self", .ref e), ("value", u)]) hr (hk _ _ lf) rfl hl (codeRec_of hk hcd) rfl (BindsTo.of_eq rfl) (show ∀ x ∈ initScope.names, x.2 ≠ .cell by decide) (fun x hx => ?_) (fun h1 hns hkeep => ?_) rfl rfl rfl
  · simp only [List.mem_cons, List.mem_nil_iff, or_false] at hx
    rcases hx with rfl | rfl <;> rfl
  have F1 : Fr (hideAll s.heap [e]) s.heap.objs.size h1 (fun x => [(("self" : Str), Value.ref e), ("value", u)].reverse.lookup x) := ⟨hns, fun b o z => hkeep b o (of_hideAll _ z), Nat.le_of_eq (hideAll_size _ _)⟩
  have N1 : News (hideAll s.heap [e]) s.heap.objs.size h1 [(e, excObj C t0 none .none)] := fun p hp => by
    have : p = (e, excObj C t0 none .none) := by simpa using hp
    subst this
    exact ⟨hkeep _ _ he, Nat.ne_of_lt (Heap.lt_size he), hideAll_none _ (by simp)⟩
  have hg0 : (hideAll s.heap [e]).Ns mainGlobals mg := by
    obtain ⟨o, es, ep, z, r⟩ := hg
    exact ⟨o, es, ep, hideAll_get [e] z (by simpa using hgl), r⟩
  have hb0 : (hideAll s.heap [e]).Ns builtinsNs mb := by
    obtain ⟨o, es, ep, z, r⟩ := hb
    exact ⟨o, es, ep, hideAll_get [e] z (by simpa using hbl), r⟩
  obtain ⟨oD, hD1, hD2⟩ : ∃ oD, K.lookup D = some oD ∧ oD.data = .cls cdD := by
    unfold clsIn at hD
    split at hD
    · rename_i c d cd' sl ho
      cases hD
      exact ⟨_, ho, rfl⟩
    · cases hD
  obtain ⟨cdC, hC, hmro, hdict⟩ := X.mro
  refine ks_wpAt_execs_cons (ks_wpAt_Expr_any (ks_wpAt_MethodCall (pl := do return (← importBound (.Call (.Name "super" (q.getD 0 default)) [] [] (q.getD 1 default)) (callEnv (ksFn "__init__" qual (initPars p1 p2) (initBody q) initScope .none kV doc pm an (.ref cda) ct cc) s.heap.objs.size f)).getD true) ?_ ?_) rfl rfl)
  rotate_left
  · rw [arm_eval_Call]
    refine congrArg _ (funext fun ov => congrArg _ (funext fun _ => ?_))
    unfold methodCall
    have : methodCallPos true (.Call (.Name "super" (q.getD 0 default)) [] [] (q.getD 1 default)) (callEnv (ksFn "__init__" qual (initPars p1 p2) (initBody q) initScope .none kV doc pm an (.ref cda) ct cc) s.heap.objs.size f) (q.getD 2 default) (q.getD 4 default) = pure (q.getD 4 default) := by
      unfold methodCallPos
      rw [hpos]
      rfl
    show (holding [ov] (getMethod ov _ _) >>= fun x => methodCallPos true _ _ _ _ >>= fun cp => _) = _
    rw [this]
    rfl
  have I1 : InstAt h1 e (excObj C t0 none .none) C none := ⟨hkeep _ _ he, rfl, rfl, trivial⟩
  have X1 : K.In h1 := hh0.keeps F1.keep
  have bs : bootBuiltins "super" = some (.type "super") := by first | boot_by_name | rfl | kernel_rfl
  refine ks_wpAt_super_base (env := ksEnv qual initScope s.heap.objs.size f (.ref cda) cc) rfl rfl (by decide) rfl (X1 _ _ lf) rfl rfl rfl (X1 _ _ lc) rfl hvs (by simp) B.top ?_
  refine ks_loadName_global rfl rfl (loadGlobal_builtin (env := ksEnv qual initScope s.heap.objs.size f (.ref cda) cc) (hg0.keeps F1.keep) (mg_none_of hh0 hg0 B.sup) (hb0.keeps F1.keep) ((hbm _ (by decide +kernel)).trans bs) ⟨rfl, ?_⟩)
  refine wpAny_loadName_free rfl rfl rfl ⟨_, X1 _ _ lcc, rfl⟩ ?_
  refine wpAny_loadName_local rfl rfl F1.ns rfl ?_
  refine ks_wpAny_isType_cls (X1 _ _ hD1) hD2 ⟨rfl, ?_⟩
  refine ks_wpAny_call_super (X1 _ _ hD1) hD2 I1.at_ I1.cls (fun c z => by cases z) (looks_mroIn X1 X.sub) (fun h2 e2 k2 => ?_)
  obtain ⟨F2, N2, l2⟩ := ks_newsPush (s := ⟨h1, s.gens, s.drawn, s.toks + 2, s.os⟩) (o := ks_superObj D e C) F1 N1 rfl e2 k2
  have I2 : InstAt h2 e (excObj C t0 none .none) C none := ⟨k2 _ _ I1.at_, rfl, rfl, trivial⟩
  refine kxs_method (s := ⟨h2, s.gens, s.drawn, s.toks + 2, s.os⟩) kxs_ValueError F2 hh0 N2 (by simp) I2 B.tp X.ini X.isv (by decide) (fun q3 h3 F3 N3 l3 => ?_)
  refine kxs_callWith1 (s := ⟨h3, s.gens, s.drawn, s.toks + 2 + 1, s.os⟩) (i := "ValueError.__init__") (x := e) N3 (by simp) ?_ rfl rfl
  refine spliced_cons (wpAny_Name (wpAny_loadName_local rfl rfl F3.ns rfl (spliced_nil ⟨kxs_at (i := "ValueError.__init__") (x := e) N3 (by simp), ?_⟩)) (by decide))
  have n3 : q3 ≠ e := Nat.ne_of_gt (l3 (e, excObj C t0 none .none) (by simp))
  have n2 : h1.objs.size ≠ e := Nat.ne_of_gt (l2 (e, excObj C t0 none .none) (by simp))
  refine kxs_call (x := e) (t := t0) (dv := none) (c2 := .none) (nw := fun o => [(q3, kxs_mw "ValueError.__init__" e), (h1.objs.size, ks_superObj D e C), (e, o)]) (s := ⟨h3, s.gens, s.drawn, s.toks + 2 + 1, s.os⟩) F3 hh0 N3 PySem.F.excBase_ValueError X.ve (by simp)
    (.tail n3 (.tail n2 (.head (by simp)))) (show 1 ≤ sizeLine by decide) (fun t' h4 F4 N4 l4 => ?_)
  have I4 : InstAt h4 e (excObj C t' none .none) C none := ⟨(N4 (e, excObj C t' none .none) (by simp)).1, rfl, rfl, trivial⟩
  have X4 : K.In h4 := hh0.keeps F4.keep
  refine ks_wpAt_execs_cons (ks_wpAt_Assign_Attr (wpAt_of_wpAny (wpAny_Name (wpAny_loadName_local rfl rfl F4.ns rfl (wpAny_Name (wpAny_loadName_local rfl rfl F4.ns rfl ?_) (by decide))) (by decide))) rfl)
  refine set_plain (s := ⟨h4, s.gens, s.drawn, s.toks + 2 + 1, s.os⟩) X4 I4 X.sa (HandSPX.exc_osa X4 I4.at_ hC hmro hdict X.val (fun h5 tk dx k5 z5 dxe g5 ns5 => ?_))
  refine wpAt_of_wpAny (wpAny_execs_nil ?_)
  obtain ⟨oL, es, ep, hL, _⟩ := F4.ns
  exact h h5 tk dx t' (fun b o nb z => k5 b o nb (F4.keep b o (hideAll_get [e] z (by simpa using nb)))) (Nat.le_trans (Nat.le_of_lt (Heap.lt_size hL)) z5) g5 ns5
end
end EVX

namespace EVX
open PySem PySem.Spec PyProof.Rows L2

/-- the error class named x, over LotError -/
structure ErrC (prog : Program) (K : PySem.W.Frag) (mg : Str → Option Value) (x : Str) : Prop where
  ex : ∃ D f, Base prog K D f ∧ Err K D f (He.ga K x) ∧ PySem.W.findIn K (.ref (He.ga K x)) "__init__" = some (some (.ref f)) ∧ PySem.W.typeIn K (.ref f) = some (.type "function")
  mg : mg x = some (.ref (He.ga K x))
  keep : PySem.W.keepIn K (.ref (He.ga K x)) = true
  exC : PySem.W.subIn K (.ref (He.ga K x)) (.type "BaseException") = some true
  tyC : PySem.W.typeIn K (.ref (He.ga K x)) = some (.type "type")
  xf : XfC K (He.ga K x)
  noat : PySem.W.findIn K (.ref (He.ga K x)) "value" = some none
  ca : PySem.W.findIn K (.ref (He.ga K x)) "__class__" = some (some (.builtin "object.__class__"))
  cg : PySem.W.specialIn K (.builtin "object.__class__") "__get__" = some (some (.builtin "getset_descriptor.__get__"))
  ct : PySem.W.takesIn K (.builtin "object.__class__") = some true
  co : PySem.W.mroIn K (He.ga K x) (.type "object") = some true

/-- C(y): a new error -/
def rMk (C : Addr) : List V → Hp → VK → Prop := fun xs H Q => ∃ y, xs = [y] ∧ ∀ a dx, H a = none → H dx = none → dx ≠ a → Q (.ref a) (upd (upd H dx (exd dx [(("value" : Str), y)])) a (exo a C (some dx)))

section
variable {X : Cx}
theorem call_err {x : Str} (hr : Room 0 X.A) (T : ErrC X.prog X.K X.mg x) : CallR X (.ref (He.ga X.K x)) (rMk (He.ga X.K x)) := by
  intro pins s σ H xs us Q I r h
  obtain ⟨y, rfl, q⟩ := h
  obtain ⟨D, f, B, Er, iC, tI⟩ := T.ex
  generalize hCe : He.ga X.K x = C at *
  cases r with
  | @cons _ u _ _ ry r0 =>
    cases r0
    obtain ⟨hp, g, dr, tk, os⟩ := s
    obtain ⟨nm, N', qn, bs, bm, hdct, sn, sub, ab, col, dd, k0, k1, k2, k3, k5, hC, hT⟩ := PySem.W.excInit_of I.kIn Er.ve
    obtain ⟨mb, hb, hbm⟩ := I.ok.mod.blt
    have keepB : ∀ b o, X.base.get? b = some o → hp.get? b = some o := fun b o z => (I.bs b o z).1
    have kk : ∀ b o, hp.get? b = some o → ((hp.push (PySem.W.kdv_tup [u])).push (PySem.HandSPX.excO C hp.objs.size)).get? b = some o := fun b o e => Heap.get?_push_of_some _ (Heap.get?_push_of_some _ e)
    have hget : ((hp.push (PySem.W.kdv_tup [u])).push (PySem.HandSPX.excO C hp.objs.size)).get? (hp.objs.size + 1) = some (PySem.HandSPX.excO C hp.objs.size) := by heap_get
    have old : ∀ {b : Addr} {o : Obj}, hp.get? b = some o → b ≠ hp.objs.size + 1 := fun {b o} z => Nat.ne_of_lt (Nat.lt_succ_of_lt (Heap.lt_size z))
    have hgl := I.ok.mod.glob
    refine wpAny_call (PySem.HandSPX.call_own F.excBase_ValueError hT hC (PySem.W.looks_findIn I.kIn iC) (fun self => PySem.W.bind_fn I.kIn self tI) (show 1 ≤ sizeLine by decide) ?_)
    refine init_run (t0 := hp.objs.size) (s := ⟨(hp.push (PySem.W.kdv_tup [u])).push (PySem.HandSPX.excO C hp.objs.size), g, dr, tk, os⟩) B Er (I.kIn.keeps kk) ((I.ok.mod.glob.keeps keepB).keeps kk) ((hb.keeps keepB).keeps kk) hbm ((I.ok.mod.nolimit.keeps keepB).keeps kk) ?_ hget (fun a o z => old (I.kIn _ _ z)) ?_ ?_ (fun h' tk' dx t1 k1 z1 g1 n1 => ?_)
    · rw [make_depth]
      have := hr.dp
      show X.A.depth + _ < _
      omega
    · obtain ⟨o, _, _, z, _⟩ := hgl
      exact old (keepB _ _ z)
    · obtain ⟨o, _, _, z, _⟩ := hb
      exact old (keepB _ _ z)
    · have kf : ∀ b o, hp.get? b = some o → h'.get? b = some o := fun b o z => k1 b o (old z) (kk b o z)
      have hsz : hp.objs.size + 2 ≤ dx := by simpa [Heap.push] using z1
      have hda : dx ≠ hp.objs.size + 1 := by omega
      have hna : H (hp.objs.size + 1) = none := I.hok.fresh (Nat.le_succ _)
      have hnd : H dx = none := I.hok.fresh (by show hp.objs.size ≤ dx; omega)
      have nd : ∀ {b : Addr} {o : Obj}, hp.get? b = some o → b ≠ dx := fun {b o} z => Nat.ne_of_lt (Nat.lt_of_lt_of_le (Heap.lt_size z) (Nat.le_trans (Nat.le_add_right _ 2) hsz))
      have hu : ∀ b o, H b = some o → (upd (upd H dx (exd dx [(("value" : Str), y)])) (hp.objs.size + 1) (exo (hp.objs.size + 1) C (some dx))) b = some o := fun b o z => by
        rw [upd_ne (ne_of_none z hna), upd_ne (ne_of_none z hnd)]; exact z
      have U : Un X.fs [] H (upd (upd H dx (exd dx [(("value" : Str), y)])) (hp.objs.size + 1) (exo (hp.objs.size + 1) C (some dx))) hp h' := {
        keep := fun b o z n _ _ => kf b o z
        slot := fun b o z n _ _ => ⟨o.slots, kf b o z⟩
        free := fun b o z n _ => by rw [upd_ne (old z), upd_ne (nd z)]; exact n
        there := fun b o z _ => ⟨o, kf b o z⟩
        tups := fun b xs z => hu _ _ z
        frzs := fun b o v z => hu _ _ z
        tbls := fun b ps z => ⟨#[], by rw [hu _ _ z]; simp⟩ }
      refine ⟨rfl, ?_⟩
      refine ⟨.ref (hp.objs.size + 1), _, I.un (t' := tk') U (fun b o z => ?_), rfl, q _ _ hna hnd hda⟩
      by_cases hb1 : b = hp.objs.size + 1
      · subst hb1
        rw [upd_same] at z
        cases z
        exact exo_ok g1
      · rw [upd_ne hb1] at z
        by_cases hd1 : b = dx
        · subst hd1
          rw [upd_same] at z
          cases z
          exact exd_ok n1 (relO_put (fs := []) ry fun g => True.intro)
        · rw [upd_ne hd1] at z
          exact (I.hok b o z).stay (fun c v _ zz => kf c v zz) (fun c hc => hu _ _ hc) (fun c xs hc => hu _ _ hc)
/-- isinstance(e, c), e an error that one holds -/
def rIsX (K : PySem.W.Frag) : List V → Hp → VK → Prop := fun xs H Q => ∃ (a C dx : Addr) (fs : List (Str × V)) (c : V) (u : Value) (b : Bool), xs = [.ref a, c] ∧ H a = some (exo a C (some dx)) ∧ H dx = some (exd dx fs) ∧
  ClsV c u ∧ PySem.W.kitOne K (.ref C) u = some b ∧ (∃ (P : Program) (mg : Str → Option Value) (x : Str), C = He.ga K x ∧ ErrC P K mg x) ∧ Q (.bl b) H
theorem call_isX : CallR X (.builtin "isinstance") (rIsX X.K) := by
  intro pins s σ H xs us Q I r h
  obtain ⟨a, C, dx, fs, c, u, b, rfl, ea, ed, k, e, ⟨P, mg, x, rfl, T⟩, q⟩ := h
  obtain ⟨u1, u2, rfl, r1, r2⟩ := vals2 r
  cases (show u1 = Value.ref a from r1)
  have e2 := k.eq r2
  subst e2
  obtain ⟨t1, ho⟩ := exo_at I.hok ea
  obtain ⟨mA, hns, rel⟩ := exd_at I.hok ed
  obtain ⟨oD, _, _, hoD, _, _⟩ := hns.count (within_of rel)
  obtain ⟨cd, hcd, _⟩ := PySem.W.any_some T.xf.hdC
  exact PySem.W.kia_one (PySem.W.kitx_exc (od := some oD) (by rw [hcd]; rfl) T.xf.ga T.xf.gg T.xf.exC T.ca T.cg T.ct T.co) I.kIn ⟨ho, rfl, rfl, hoD⟩ e (fun z => nomatch z) fun tk => ⟨.bl b, H, I.tok tk, rfl, q⟩
/-- e.value -/
def tVl (K : PySem.W.Frag) (te : TE) : TE := fun σ H Q => te σ H fun x H1 => ∃ (a dx : Addr) (y : V) (P : Program) (mg : Str → Option Value) (z : Str), x = .ref a ∧ ErrC P K mg z ∧ H1 a = some (exo a (He.ga K z) (some dx)) ∧ H1 dx = some (exd dx [(("value" : Str), y)]) ∧ Q y H1
theorem pe_vl {e : Expr} {te : TE} {pos : Pos} (he : PE X e te) (hb : attributeBase e "value" X.env (eval e X.env) = eval e X.env) : PE X (.Attribute e "value" pos) (tVl X.K te) := by
  refine ⟨fun pins s σ H Q I h => ?_⟩
  refine attr_of hb (thn (he.run pins s σ H _ I h) fun u s1 hh => ?_)
  obtain ⟨x, H1, I1, rx, a, dx, y, P, mg, z, ex, T, ea, ed, q⟩ := hh
  subst ex
  obtain rfl : u = Value.ref a := rx
  obtain ⟨t1, ho⟩ := exo_at I1.hok ea
  obtain ⟨mA, hns, rel⟩ := exd_at I1.hok ed
  obtain ⟨od, hod, hl⟩ := lookIn_ns hns
  obtain ⟨u, hu, ru⟩ := RelO.some_of (v := y) (o := mA "value") (rel "value")
  exact HandSPX.exc_get I1.kIn ⟨ho, rfl, rfl, hod⟩ T.xf.ga T.xf.gg T.xf.exC (PySem.W.findObj_own T.xf.hdC T.noat rfl (by rw [hl, hu])) (handed_of ru) ⟨y, H1, I1.tok _, ru, q⟩
end
end EVX

namespace EV
open PySem PySem.Spec PyProof.Rows L2

/-- plain data -/
inductive D where
  | non | bl (b : Bool) | int (i : Int) | str (x : Str)
  | tup (xs : List D) | lst (xs : List D)
  | dic (ks vs : List D)
  | ins (c : Str) (ns : List Str) (vs : List D)
  | exc (c : Str) (v : D)
  | cel (i : Nat)
  | scr (ns : List Int)

abbrev Cells := List (List D)
/-- a text whose signs are signs -/
def cpOk (x : Str) : Bool := x.cps.all (· < 0x110000)

mutual
/-- v stands for d over the heap H, the cells' places m -/
def Rep (K : PySem.W.Frag) (H : Hp) (m : List Addr) : D → V → Prop
  | .non, v => v = .non
  | .bl b, v => v = .bl b
  | .int i, v => v = .int i
  | .str x, v => v = .str x ∧ x.length ≤ sizeLine ∧ cpOk x = true
  | .tup ds, v => ∃ p xs, v = .ref p ∧ SqT K H p xs ∧ xs.length ≤ sizeLine ∧ RepL K H m ds xs
  | .lst ds, v => ∃ p xs, v = .ref p ∧ H p = some (.lst xs) ∧ xs.length ≤ sizeLine ∧ RepL K H m ds xs
  | .dic ks vs, v => ∃ (p : Addr) (kvs : List (Key × V)), v = .ref p ∧ H p = some (.dK kvs) ∧ kvs.length ≤ sizeLine ∧ RepL K H m ks (kvs.map fun q => kV q.1) ∧ RepL K H m vs (kvs.map (·.2))
  | .ins c ns ds, v => ∃ (p dx : Addr) (fs : List (Str × V)), v = .ref p ∧ H p = some (.ins (He.ga K c) dx fs) ∧ fs.map (·.1) = ns ∧ RepL K H m ds (fs.map (·.2))
  | .exc c d, v => ∃ (p dx : Addr) (x : V), v = .ref p ∧ H p = some (exo p (He.ga K c) (some dx)) ∧ H dx = some (exd dx [(("value" : Str), x)]) ∧ Rep K H m d x
  | .cel i, v => ∃ a, m[i]? = some a ∧ v = .ref a
  | .scr ns, v => ∃ p, v = .ref p ∧ SqL K H p (ns.map V.int) ∧ ns.length ≤ sizeLine
def RepL (K : PySem.W.Frag) (H : Hp) (m : List Addr) : List D → List V → Prop
  | [], vs => vs = []
  | d :: ds, vs => ∃ x xs, vs = x :: xs ∧ Rep K H m d x ∧ RepL K H m ds xs
end

def Sub (H H' : Hp) : Prop := ∀ a o, H a = some o → H' a = some o
theorem Sub.refl {H : Hp} : Sub H H := fun _ _ e => e
theorem Sub.trans {H H1 H2 : Hp} (a : Sub H H1) (b : Sub H1 H2) : Sub H H2 := fun _ _ e => b _ _ (a _ _ e)

theorem SqT.sub {K : PySem.W.Frag} {H H' : Hp} {p : Addr} {xs : List V} (s : Sub H H') (h : SqT K H p xs) : SqT K H' p xs := by
  rcases h with (h | ⟨o, h⟩) | h
  · exact .inl (.inl (s _ _ h))
  · exact .inl (.inr ⟨o, s _ _ h⟩)
  · exact .inr h
theorem SqL.sub {K : PySem.W.Frag} {H H' : Hp} {p : Addr} {xs : List V} (s : Sub H H') (h : SqL K H p xs) : SqL K H' p xs := by
  rcases h with (h | ⟨o, h⟩) | h
  · exact .inl (.inl (s _ _ h))
  · exact .inl (.inr ⟨o, s _ _ h⟩)
  · exact .inr h


def Ext (m m' : List Addr) : Prop := ∀ (i : Nat) a, m[i]? = some a → m'[i]? = some a
theorem Ext.refl {m : List Addr} : Ext m m := fun _ _ e => e
theorem Ext.trans {m m1 m2 : List Addr} (a : Ext m m1) (b : Ext m1 m2) : Ext m m2 := fun _ _ e => b _ _ (a _ _ e)

mutual
theorem Rep.up {K : PySem.W.Frag} {H H' : Hp} {m m' : List Addr} (s : Sub H H') (hm : Ext m m') : ∀ (d : D) (v : V), Rep K H m d v → Rep K H' m' d v
  | .non, v, h => by simpa only [Rep] using h
  | .bl b, v, h => by simpa only [Rep] using h
  | .int i, v, h => by simpa only [Rep] using h
  | .str x, v, h => by simpa only [Rep] using h
  | .tup ds, v, h => by
    simp only [Rep] at h ⊢
    obtain ⟨p, xs, e, q, z, r⟩ := h
    exact ⟨p, xs, e, SqT.sub s q, z, RepL.up s hm ds xs r⟩
  | .lst ds, v, h => by
    simp only [Rep] at h ⊢
    obtain ⟨p, xs, e, q, z, r⟩ := h
    exact ⟨p, xs, e, s _ _ q, z, RepL.up s hm ds xs r⟩
  | .dic ks vs, v, h => by
    simp only [Rep] at h ⊢
    obtain ⟨p, kvs, e, q, z, r1, r2⟩ := h
    exact ⟨p, kvs, e, s _ _ q, z, RepL.up s hm ks _ r1, RepL.up s hm vs _ r2⟩
  | .ins cl ns ds, v, h => by
    simp only [Rep] at h ⊢
    obtain ⟨p, dx, fs, e, q, z, r⟩ := h
    exact ⟨p, dx, fs, e, s _ _ q, z, RepL.up s hm ds _ r⟩
  | .exc cl d, v, h => by
    simp only [Rep] at h ⊢
    obtain ⟨p, dx, x, e, q, z, r⟩ := h
    exact ⟨p, dx, x, e, s _ _ q, s _ _ z, Rep.up s hm d x r⟩
  | .cel i, v, h => by
    simp only [Rep] at h ⊢
    obtain ⟨a, e, z⟩ := h
    exact ⟨a, hm _ _ e, z⟩
  | .scr ns, v, h => by
    simp only [Rep] at h ⊢
    obtain ⟨p, e, q, z⟩ := h
    exact ⟨p, e, SqL.sub s q, z⟩
theorem RepL.up {K : PySem.W.Frag} {H H' : Hp} {m m' : List Addr} (s : Sub H H') (hm : Ext m m') : ∀ (ds : List D) (vs : List V), RepL K H m ds vs → RepL K H' m' ds vs
  | [], vs, h => by simpa only [RepL] using h
  | d :: ds, vs, h => by
    simp only [RepL] at h ⊢
    obtain ⟨x, xs, e, r, q⟩ := h
    exact ⟨x, xs, e, Rep.up s hm d x r, RepL.up s hm ds xs q⟩
end
section
variable {K : PySem.W.Frag} {H H' : Hp} {m m' : List Addr}
theorem RepL.length : ∀ {ds : List D} {vs : List V}, RepL K H m ds vs → ds.length = vs.length
  | [], vs, h => by simp only [RepL] at h; subst h; rfl
  | d :: ds, vs, h => by
    simp only [RepL] at h
    obtain ⟨x, xs, rfl, r, q⟩ := h
    simp [RepL.length q]
theorem RepL.get : ∀ {ds : List D} {vs : List V} {i : Nat} {d : D}, RepL K H m ds vs → ds[i]? = some d → ∃ x, vs[i]? = some x ∧ Rep K H m d x
  | [], vs, i, d, h, e => by simp at e
  | d0 :: ds, vs, 0, d, h, e => by
    simp only [RepL] at h
    obtain ⟨x, xs, rfl, r, q⟩ := h
    simp at e; subst e
    exact ⟨x, rfl, r⟩
  | d0 :: ds, vs, i + 1, d, h, e => by
    simp only [RepL] at h
    obtain ⟨x, xs, rfl, r, q⟩ := h
    simp at e
    obtain ⟨y, h1, h2⟩ := RepL.get q e
    exact ⟨y, by simpa using h1, h2⟩
theorem RepL.getV : ∀ {ds : List D} {vs : List V} {i : Nat} {x : V}, RepL K H m ds vs → vs[i]? = some x → ∃ d, ds[i]? = some d ∧ Rep K H m d x := fun {ds vs i x} h e => by
  have hl := h.length
  obtain ⟨lt, _⟩ := List.getElem?_eq_some_iff.mp e
  have hd : ds[i]? = some (ds[i]'(by omega)) := by simp
  obtain ⟨y, e2, r⟩ := h.get hd
  rw [e] at e2; cases e2
  exact ⟨_, hd, r⟩
theorem RepL.nil : RepL K H m [] [] := by simp only [RepL]
theorem RepL.cons {d : D} {ds : List D} {x : V} {xs : List V} (r : Rep K H m d x) (q : RepL K H m ds xs) : RepL K H m (d :: ds) (x :: xs) := by
  simp only [RepL]; exact ⟨x, xs, rfl, r, q⟩
theorem RepL.append : ∀ {ds es : List D} {vs us : List V}, RepL K H m ds vs → RepL K H m es us → RepL K H m (ds ++ es) (vs ++ us)
  | [], es, vs, us, h, k => by simp only [RepL] at h; subst h; exact k
  | d :: ds, es, vs, us, h, k => by
    simp only [RepL] at h
    obtain ⟨x, xs, rfl, r, q⟩ := h
    exact RepL.cons r (RepL.append q k)
theorem RepL.one {d : D} {x : V} (r : Rep K H m d x) : RepL K H m [d] [x] := .cons r .nil
theorem RepL.take : ∀ {ds : List D} {vs : List V} (n : Nat), RepL K H m ds vs → RepL K H m (ds.take n) (vs.take n)
  | _, _, 0, _ => by simp only [List.take_zero]; exact .nil
  | [], vs, n + 1, h => by simp only [RepL] at h; subst h; simp only [List.take_nil]; exact .nil
  | d :: ds, vs, n + 1, h => by
    simp only [RepL] at h
    obtain ⟨x, xs, rfl, r, q⟩ := h
    exact RepL.cons r (RepL.take n q)
theorem RepL.drop : ∀ {ds : List D} {vs : List V} (n : Nat), RepL K H m ds vs → RepL K H m (ds.drop n) (vs.drop n)
  | _, _, 0, h => h
  | [], vs, n + 1, h => by simp only [RepL] at h; subst h; simp only [List.drop_nil]; exact .nil
  | d :: ds, vs, n + 1, h => by
    simp only [RepL] at h
    obtain ⟨x, xs, rfl, r, q⟩ := h
    exact RepL.drop n q
theorem RepL.set {d : D} {x : V} (r : Rep K H m d x) : ∀ {ds : List D} {vs : List V} (i : Nat), RepL K H m ds vs → RepL K H m (ds.set i d) (vs.set i x)
  | [], vs, i, h => by simp only [RepL] at h; subst h; exact .nil
  | d0 :: ds, vs, 0, h => by
    simp only [RepL] at h
    obtain ⟨x0, xs, rfl, r0, q⟩ := h
    exact .cons r q
  | d0 :: ds, vs, i + 1, h => by
    simp only [RepL] at h
    obtain ⟨x0, xs, rfl, r0, q⟩ := h
    exact .cons r0 (RepL.set r i q)
theorem RepL.eraseIdx : ∀ {ds : List D} {vs : List V} (i : Nat), RepL K H m ds vs → RepL K H m (ds.eraseIdx i) (vs.eraseIdx i)
  | [], vs, i, h => by simp only [RepL] at h; subst h; exact .nil
  | d0 :: ds, vs, 0, h => by
    simp only [RepL] at h
    obtain ⟨x0, xs, rfl, r0, q⟩ := h
    exact q
  | d0 :: ds, vs, i + 1, h => by
    simp only [RepL] at h
    obtain ⟨x0, xs, rfl, r0, q⟩ := h
    exact .cons r0 (RepL.eraseIdx i q)
end

/- no list or dict within -/
mutual
def imm : D → Bool
  | .tup ds => immL ds
  | .lst _ => false
  | .dic _ _ => false
  | .scr _ => false
  | .ins _ _ ds => immL ds
  | .exc _ d => imm d
  | _ => true
def immL : List D → Bool
  | [] => true
  | d :: ds => imm d && immL ds
end
/-- a state: F its frozen part, H the whole heap, m the places of the cells S -/
structure Wd (K : PySem.W.Frag) (F H : Hp) (m : List Addr) (S : Cells) : Prop where
  sub : Sub F H
  len : m.length = S.length
  nd : m.Nodup
  cel : ∀ (i : Nat) a ds, m[i]? = some a → S[i]? = some ds → F a = none ∧ ∃ xs, H a = some (.lst xs) ∧ xs.length ≤ sizeLine ∧ RepL K F m ds xs
  im : ∀ (i : Nat) ds, S[i]? = some ds → immL ds = true

/-- from one state to a later one: what is frozen stays, what is neither frozen nor a cell stays as it is -/
structure Gr (K : PySem.W.Frag) (F H : Hp) (m : List Addr) (F' H' : Hp) (m' : List Addr) (S' : Cells) : Prop where
  w : Wd K F' H' m' S'
  up : Sub F F'
  ext : Ext m m'
  frm : ∀ a o, H a = some o → F a = none → a ∉ m → H' a = some o ∧ F' a = none ∧ a ∉ m'

section
variable {K : PySem.W.Frag} {F H F' H' F1 H1 F2 H2 : Hp} {m m' m1 m2 : List Addr} {S S' S1 S2 : Cells}
theorem Gr.refl (w : Wd K F H m S) : Gr K F H m F H m S := ⟨w, Sub.refl, Ext.refl, fun _ _ a b c => ⟨a, b, c⟩⟩
theorem Gr.trans (a : Gr K F H m F1 H1 m1 S1) (b : Gr K F1 H1 m1 F2 H2 m2 S2) : Gr K F H m F2 H2 m2 S2 :=
  ⟨b.w, a.up.trans b.up, a.ext.trans b.ext, fun x o h1 h2 h3 => by
    obtain ⟨e1, e2, e3⟩ := a.frm x o h1 h2 h3
    exact b.frm x o e1 e2 e3⟩
theorem Rep.gr {d : D} {v : V} (g : Gr K F H m F' H' m' S') (r : Rep K F m d v) : Rep K F' m' d v := r.up g.up g.ext
theorem RepL.gr {ds : List D} {vs : List V} (g : Gr K F H m F' H' m' S') (r : RepL K F m ds vs) : RepL K F' m' ds vs := r.up g.up g.ext

/-- a value and whether it is a new list that nobody else holds; H0: the heap ahead -/
def RepB (K : PySem.W.Frag) (H0 F H : Hp) (m : List Addr) (b : D × Bool) (v : V) : Prop :=
  match b.2 with
  | false => Rep K F m b.1 v
  | true => ∃ p xs ds, b.1 = .lst ds ∧ v = .ref p ∧ H0 p = none ∧ H p = some (.lst xs) ∧ F p = none ∧ p ∉ m ∧ xs.length ≤ sizeLine ∧ RepL K F m ds xs

/-- a new object is laid -/
theorem Wd.lay {p : Addr} {o : HO} (w : Wd K F H m S) (hp : H p = none) : Wd K F (upd H p o) m S :=
  ⟨fun a u e => by rw [upd_ne (ne_of_none (w.sub a u e) hp)]; exact w.sub a u e, w.len, w.nd, fun i a ds h1 h2 => by
    obtain ⟨h3, xs, h4, h5⟩ := w.cel i a ds h1 h2
    exact ⟨h3, xs, by rw [upd_ne (ne_of_none h4 hp)]; exact h4, h5⟩, w.im⟩
theorem Wd.cellThere {a : Addr} (w : Wd K F H m S) (ha : a ∈ m) : ∃ xs, H a = some (.lst xs) := by
  obtain ⟨i, hi⟩ := List.mem_iff_getElem?.mp ha
  have hlt : i < S.length := by
    rw [← w.len]; exact (List.getElem?_eq_some_iff.mp hi).1
  obtain ⟨_, xs, h, _⟩ := w.cel i a _ hi (List.getElem?_eq_getElem hlt)
  exact ⟨xs, h⟩
theorem Wd.newNot {p : Addr} (w : Wd K F H m S) (hp : H p = none) : p ∉ m := fun hm => by
  obtain ⟨xs, h⟩ := w.cellThere hm
  rw [hp] at h; cases h
theorem Wd.newF {p : Addr} (w : Wd K F H m S) (hp : H p = none) : F p = none := by
  cases e : F p with
  | none => rfl
  | some o => rw [w.sub p o e] at hp; cases hp
theorem Gr.lay {p : Addr} {o : HO} (w : Wd K F H m S) (hp : H p = none) : Gr K F H m F (upd H p o) m S :=
  ⟨w.lay hp, Sub.refl, Ext.refl, fun a u h1 h2 h3 => ⟨by rw [upd_ne (ne_of_none h1 hp)]; exact h1, h2, h3⟩⟩
theorem Wd.frz {p : Addr} {o : HO} (w : Wd K F H m S) (hp : H p = some o) (hm : p ∉ m) (hF : F p = none) : Wd K (upd F p o) H m S :=
  ⟨fun a u e => by
    by_cases h : a = p
    · subst h; rw [upd_same] at e; cases e; exact hp
    · rw [upd_ne h] at e; exact w.sub a u e, w.len, w.nd, fun i a ds h1 h2 => by
    obtain ⟨h3, xs, h4, h5, h6⟩ := w.cel i a ds h1 h2
    have hne : a ≠ p := fun e => hm (e ▸ List.mem_of_getElem? h1)
    exact ⟨by rw [upd_ne hne]; exact h3, xs, h4, h5, h6.up (fun b u e => by rw [upd_ne (ne_of_none e hF)]; exact e) Ext.refl⟩, w.im⟩
theorem sub_upd {p : Addr} {o : HO} (hF : F p = none) : Sub F (upd F p o) := fun b u e => by rw [upd_ne (ne_of_none e hF)]; exact e
/-- a new object is laid and frozen -/
theorem Gr.layF {p : Addr} {o : HO} (w : Wd K F H m S) (hp : H p = none) : Gr K F H m (upd F p o) (upd H p o) m S :=
  ⟨(w.lay hp).frz upd_same (w.newNot hp) (w.newF hp), sub_upd (w.newF hp), Ext.refl, fun a u h1 h2 h3 => by
    have hne := ne_of_none h1 hp
    exact ⟨by rw [upd_ne hne]; exact h1, by rw [upd_ne hne]; exact h2, h3⟩⟩
/-- what a result is may be frozen -/
theorem freeze {b : D × Bool} {v : V} (g : Gr K F H m F1 H1 m1 S1) (r : RepB K H F1 H1 m1 b v) : ∃ F2, Gr K F H m F2 H1 m1 S1 ∧ Sub F1 F2 ∧ Rep K F2 m1 b.1 v := by
  obtain ⟨d, o⟩ := b
  cases o with
  | false => exact ⟨F1, g, Sub.refl, r⟩
  | true =>
    obtain ⟨p, xs, ds, e1, e2, h0, h1, h2, h3, h4, h5⟩ := r
    refine ⟨upd F1 p (.lst xs), ⟨g.w.frz h1 h3 h2, g.up.trans (sub_upd h2), g.ext, fun a u q1 q2 q3 => ?_⟩, sub_upd h2, ?_⟩
    · obtain ⟨z1, z2, z3⟩ := g.frm a u q1 q2 q3
      exact ⟨z1, by rw [upd_ne (ne_of_none q1 h0)]; exact z2, z3⟩
    · have e1' : d = .lst ds := e1
      subst e1' e2
      simp only [Rep]
      exact ⟨p, xs, rfl, upd_same, h4, h5.up (sub_upd h2) Ext.refl⟩
end
end EV

namespace EV
open PySem PySem.Spec PyProof.Rows L2

/-- an end: a value, an own exception (its class, its value), or nothing is said -/
inductive R (α : Type) where
  | ok (a : α) (s : Cells)
  | exn (c : Str) (d : D) (s : Cells)
  | no
def R.bind {α β : Type} (r : R α) (f : α → Cells → R β) : R β :=
  match r with
  | .ok a s => f a s
  | .exn c d s => .exn c d s
  | .no => .no
abbrev B := D × Bool
abbrev En := List (Option D)
abbrev Fk := Str × Option Str
abbrev Ca := Fk → List D → Cells → R B
abbrev SE := Ca → En → Cells → R B
abbrev ST := Ca → En → Cells → R Bool
abbrev SA := Ca → En → Cells → R (List D)
abbrev St := L2.St

def REnv (K : PySem.W.Frag) (F : Hp) (m : List Addr) (ρ : En) (σ : St) : Prop := ρ.length = σ.length ∧ ∀ (i : Nat) d, ρ[i]? = some (some d) → ∃ v, σ[i]? = some (some v) ∧ Rep K F m d v
theorem REnv.gr {K : PySem.W.Frag} {F H F' H' : Hp} {m m' : List Addr} {S' : Cells} {ρ : En} {σ : St} (g : Gr K F H m F' H' m' S') (r : REnv K F m ρ σ) : REnv K F' m' ρ σ := ⟨r.1, fun i d e => by
  obtain ⟨v, h1, h2⟩ := r.2 i d e
  exact ⟨v, h1, h2.gr g⟩⟩

/-- what is wished of an exception that has value d -/
def Wish (K : PySem.W.Frag) (W : WX) (σ : St) (F H : Hp) (m : List Addr) (c : Str) (d : D) (S' : Cells) : Prop :=
  ∀ (dx : Addr) (x : V) F' H' m', Gr K F H m F' H' m' S' → H dx = none → F' dx = none → dx ∉ m' → H' dx = some (.xd [(("value" : Str), x)]) → Rep K F' m' d x → W (.ref (He.ga K c)) (some dx) σ H'
/-- what is wanted of an end -/
def Post {α : Type} (K : PySem.W.Frag) (W : WX) (σ : St) (F H : Hp) (m : List Addr) (r : R α) (out : α → Cells → Hp → Hp → List Addr → Prop) : Prop :=
  match r with
  | .ok a S' => ∀ F' H' m', Gr K F H m F' H' m' S' → out a S' F' H' m'
  | .exn c d S' => Wish K W σ F H m c d S'
  | .no => False

/-- the reading of an expression by a function on data -/
def tE (K : PySem.W.Frag) (W : WX) (f : En → Cells → R B) : TE := fun σ H Q => ∃ ρ S F m, Wd K F H m S ∧ REnv K F m ρ σ ∧
  Post K W σ F H m (f ρ S) fun b _ F' H' m' => ∀ v, RepB K H F' H' m' b v → Q v H'
def tT (K : PySem.W.Frag) (W : WX) (f : En → Cells → R Bool) : TT := fun σ H Q => ∃ ρ S F m, Wd K F H m S ∧ REnv K F m ρ σ ∧
  Post K W σ F H m (f ρ S) fun b _ _ H' _ => Q b H'
def tA (K : PySem.W.Frag) (W : WX) (f : En → Cells → R (List D)) : TA := fun σ H Q => ∃ ρ S F m, Wd K F H m S ∧ REnv K F m ρ σ ∧
  Post K W σ F H m (f ρ S) fun ds _ F' H' m' => ∀ vs, RepL K F' m' ds vs → Q vs H'

section
variable {K : PySem.W.Frag} {W : WX} {σ : St} {F H F1 H1 : Hp} {m m1 : List Addr} {S S1 : Cells} {ρ : En} {α β : Type}
theorem Gr.fresh {p : Addr} (g : Gr K F H m F1 H1 m1 S1) (h0 : H1 p = none) : H p = none := by
  cases e : H p with
  | none => rfl
  | some o =>
    by_cases hF : F p = none
    · by_cases hm : p ∈ m
      · obtain ⟨i, hi⟩ := List.mem_iff_getElem?.mp hm
        have hm1 : p ∈ m1 := List.mem_of_getElem? (g.ext i p hi)
        obtain ⟨xs, q⟩ := g.w.cellThere hm1
        rw [h0] at q; cases q
      · have := (g.frm p o e hF hm).1
        rw [h0] at this; cases this
    · cases q : F p with
      | none => exact absurd q hF
      | some u =>
        have := g.w.sub p u (g.up p u q)
        rw [h0] at this; cases this
theorem Wish.gr {c : Str} {d : D} {S' : Cells} (g : Gr K F H m F1 H1 m1 S1) (w : Wish K W σ F H m c d S') : Wish K W σ F1 H1 m1 c d S' := fun dx x F' H' m' g' h0 h1 h2 h3 h4 =>
  w dx x F' H' m' (g.trans g') (g.fresh h0) h1 h2 h3 h4
theorem RepB.weak {b : B} {v : V} {F' H' : Hp} {m' : List Addr} (g : Gr K F H m F1 H1 m1 S1) (r : RepB K H1 F' H' m' b v) : RepB K H F' H' m' b v := by
  obtain ⟨d, o⟩ := b
  cases o with
  | false => exact r
  | true =>
    obtain ⟨p, xs, ds, e1, e2, h0, h⟩ := r
    exact ⟨p, xs, ds, e1, e2, g.fresh h0, h⟩
theorem Post.mono {r : R α} {out out2 : α → Cells → Hp → Hp → List Addr → Prop} (h : Post K W σ F H m r out)
    (k : ∀ a S' F' H' m', r = .ok a S' → Gr K F H m F' H' m' S' → out a S' F' H' m' → out2 a S' F' H' m') : Post K W σ F H m r out2 := by
  cases r with
  | ok a S' => exact fun F' H' m' g => k a S' F' H' m' rfl g (h F' H' m' g)
  | exn c d S' => exact h
  | no => exact h
theorem Post.bind {r : R α} {k : α → Cells → R β} {out : β → Cells → Hp → Hp → List Addr → Prop} (h : Post K W σ F H m (r.bind k) out) :
    Post K W σ F H m r fun a S1 F1 H1 m1 => Post K W σ F1 H1 m1 (k a S1) out := by
  cases r with
  | ok a S1 =>
    intro F1 H1 m1 g
    have h' : Post K W σ F H m (k a S1) out := h
    cases e : k a S1 with
    | ok b S2 =>
      rw [e] at h'
      exact fun F' H' m' g' => h' F' H' m' (g.trans g')
    | exn c d S2 =>
      rw [e] at h'
      exact Wish.gr g h'
    | no => rw [e] at h'; exact h'
  | exn c d S' => exact h
  | no => exact h
/-- an expression whose value is frozen -/
theorem tE.ofF {f : En → Cells → R B} {Q : VK} (w : Wd K F H m S) (r : REnv K F m ρ σ) (h : Post K W σ F H m (f ρ S) fun b _ F' H' m' => ∀ v, Rep K F' m' b.1 v → Q v H') : tE K W f σ H Q := by
  refine ⟨ρ, S, F, m, w, r, ?_⟩
  cases e : f ρ S with
  | ok b S1 =>
    rw [e] at h
    intro F' H' m' g v rb
    obtain ⟨F2, g2, _, r2⟩ := freeze g rb
    exact h F2 H' m' g2 v r2
  | exn c d S1 => rw [e] at h; exact h
  | no => rw [e] at h; exact h
theorem Gr.w' {F' H' : Hp} {m' : List Addr} {S' : Cells} (g : Gr K F H m F' H' m' S') : Wd K F' H' m' S' := g.w
end

section
variable {X : Cx}
theorem PE.imp {e : Expr} {t t' : TE} (h : PE X e t) (k : ∀ σ H Q, t' σ H Q → t σ H Q) : PE X e t' := ⟨fun pins s σ H Q I q => h.run pins s σ H Q I (k σ H Q q)⟩
theorem PT.imp {e : Expr} {t t' : TT} (h : PT X e t) (k : ∀ σ H Q, t' σ H Q → t σ H Q) : PT X e t' := ⟨fun pins s σ H Q I q => h.run pins s σ H Q I (k σ H Q q)⟩
theorem PW.imp {e : Expr} {t t' : TT} (h : PW X e t) (k : ∀ σ H Q, t' σ H Q → t σ H Q) : PW X e t' := ⟨fun wh pins s σ H Q I q => h.run wh pins s σ H Q I (k σ H Q q)⟩
theorem PA.imp {e : List Expr} {t t' : TA} (h : PA X e t) (k : ∀ σ H Q, t' σ H Q → t σ H Q) : PA X e t' := ⟨fun pos pins s σ H Q I q => h.run pos pins s σ H Q I (k σ H Q q)⟩
theorem PS.imp {e : Stmt} {t t' : TS} (h : PS X e t) (k : ∀ D σ H, t' D σ H → t D σ H) : PS X e t' := ⟨fun pins s σ H D I q => h.run pins s σ H D I (k D σ H q)⟩
theorem PSs.imp {e : List Stmt} {t t' : TS} (h : PSs X e t) (k : ∀ D σ H, t' D σ H → t D σ H) : PSs X e t' := ⟨fun pins s σ H D I q => h.run pins s σ H D I (k D σ H q)⟩
theorem OpR.imp {f : Value → Value → Sem Value} {r r' : R2} (h : OpR X f r) (k : ∀ x y H Q, r' x y H Q → r x y H Q) : OpR X f r' := by
  intro pins s σ H x y v u Q I rx ry q
  exact h pins s σ H x y v u Q I rx ry (k x y H Q q)
end
end EV

namespace EV
open PySem PySem.Spec PyProof.Rows L2

/-- room for k calls, and nobody prints -/
structure Rm (k : Nat) (A : Around) : Prop where
  rm : Room k A
  gd : A.guards = some []
theorem Rm.mono {j k : Nat} {A : Around} (r : Rm k A) (h : j ≤ k) : Rm j A := ⟨r.rm.mono h, r.gd⟩
theorem deeper_gd {A : Around} {env : Env} (h : A.guards = some []) : (A.deeper env).guards = some [] := by
  first
    | exact h
    | (simpa [Around.deeper, Around.under, Code.guards, pushGuards, Code.isGuard] using h)
theorem Rm.deeper {k : Nat} {A : Around} (r : Rm (k + 1) A) (env : Env) : Rm k (A.deeper env) := ⟨r.rm.deeper env, deeper_gd r.gd⟩

/-- a def at f keeps sp, called where there is room and nobody prints -/
structure FnG (P : Program) (w : World) (K : PySem.W.Frag) (mg : Str → Option Value) (base : Heap) (C : CXT) (k : Nat) (f : Addr) (fd : FuncData) (ps : List Str) (sp : Sp) : Prop where
  len : ∀ vs H Q E, sp vs H Q E → vs.length = ps.length
  run : ∀ (A : Around) (outer : List Env) (s : Shared) (H : Hp) (args : Args) (us : List Value) (vs : List V) (Q : VK) (E : XK),
    Rm k A → Env0 P w K mg base A outer s H → BindsTo s fd args (ps.zip us) → Vals vs us → sp vs H Q E →
      codeAny (model P w) A (.call (.ref f) args) (CR C outer P w H s Q E) s
section
variable {P : Program} {w : World} {K : PySem.W.Frag} {mg : Str → Option Value} {base : Heap} {C : CXT} {k : Nat} {f : Addr} {fd : FuncData} {ps N : List Str} {sp : Sp}
  {x qual : Str} {params : Arguments} {body : List Stmt} {scope : Scope} {dvs : List V} {kws : List (Str × V)}
theorem FnG.mono {j : Nat} (F : FnG P w K mg base C j f fd ps sp) (h : j ≤ k) : FnG P w K mg base C k f fd ps sp :=
  ⟨F.len, fun A outer s H args us vs Q E hr => F.run A outer s H args us vs Q E (hr.mono h)⟩
/-- from a body that keeps it -/
theorem fnG_of (F : FunD K x qual params body scope dvs kws f fd) (S : FnScope N ps scope) (len : ∀ vs H Q E, sp vs H Q E → vs.length = ps.length)
    (hbody : ∀ (cdv : Value) (A : Around) (outer : List Env) (s : Shared) (H : Hp) (vs : List V) (Q : VK) (E : XK),
      Rm k (A.deeper (envOfC qual scope s.heap.objs.size f cdv)) → sp vs H Q E →
        ∃ t, PSs (cxOf C P w K mg base N qual scope f cdv A outer s H E) body t ∧ t { nx := fun _ H' => Q .non H', rt := Q } (start N vs) H) :
    FnG P w K mg base C (k + 1) f fd ps sp := by
  obtain ⟨oc, od, dV, kV, doc, pm, an, cdv, ct, osl, rfl, lk, hcd, _, _⟩ := F.ex
  refine ⟨len, fun A outer s H args us vs Q E hr e0 hb r hsp => ?_⟩
  have keep : ∀ b o, base.get? b = some o → s.heap.get? b = some o := fun b o q => (e0.bs b o q).1
  have KX : K.In s.heap := e0.mod.kin.keeps keep
  have par : ∀ y ∈ ps.zip us, scope.names.lookup y.1 = some .local ∨
      (scope.names.lookup y.1 = some .cell ∧ ((cellsFrom (s.heap.objs.size + 1) scope.names []).lookup y.1).isSome = true) := by
    rintro ⟨n, v⟩ hy
    exact (S.par n (List.of_mem_zip hy).1).imp id fun q => ⟨q, PySem.W.cellsFrom_some _ _ _ (.inl q)⟩
  refine codeAny_call_function hr.rm.depth (KX _ _ lk) rfl S.co S.gen rfl (PySem.W.codeRec_of KX hcd) (hb _ _ _ _ ?_)
  refine wpAny_newFunctionEnv_cells S.kind par fun env he s1 y => ?_
  subst he
  refine ⟨(e0.mod.nolimit.keeps keep).keeps y.toInCall.keep, codeAny_func ?_⟩
  obtain ⟨t, ht, hq⟩ := hbody cdv A outer s H vs Q E (hr.deeper _) hsp
  have I := inv_start (CX := C) (E := E) S hr.rm.hd e0 (len _ _ _ _ hsp) r y
  refine wpAny_mono (ht.run [] s1 _ H _ I hq) (fun fl s' hs => ?_) fun e s' hs => hs
  cases fl with
  | ret u =>
    obtain ⟨v, σ', H', J, rv, q⟩ := hs
    exact ⟨v, H', J.os, J.bare, J.base, J.hok, rv, q⟩
  | next =>
    obtain ⟨σ', H', J, q⟩ := hs
    exact ⟨.non, H', J.os, J.bare, J.base, J.hok, rfl, q⟩
  | brk => exact hs.elim fun _ z => z.elim fun _ z => z.2.elim
  | cont => exact hs.elim fun _ z => z.elim fun _ z => z.2.elim
end

/-- what a call promises by a function on data -/
def spOf (K : PySem.W.Frag) (ca : Ca) (k : Fk) (n : Nat) : Sp := fun vs H Q E => vs.length = n ∧ ∃ ds S F m, Wd K F H m S ∧ RepL K F m ds vs ∧
  Post K (fun c d _ H' => E c d H') [] F H m (ca k ds S) fun b _ F' H' m' => ∀ v, RepB K H F' H' m' b v → Q v H'

/-- a def of the text: its parameters, its defaults -/
structure FnI where
  ps : List Str
  dfl : List D
structure Pg where
  fns : List (Str × FnI)
  cons : List (Str × D)
  blts : List Str
  excs : List Str
/-- error c is an x -/
def subE (c x : Str) : Bool := c == x || x == ("LotError" : Str)

structure PgOk (P : Program) (w : World) (K : PySem.W.Frag) (mg : Str → Option Value) (base : Heap) (pg : Pg) (ca : Ca) (lev : Nat) : Prop where
  fn : ∀ x i, pg.fns.lookup x = some i → ∃ f fd, mg x = some (.ref f) ∧ PySem.W.keepIn K (.ref f) = true ∧ FnG P w K mg base (CX P w) lev f fd i.ps (spOf K ca (x, none) i.ps.length) ∧
    ∀ n, n + i.dfl.length ≥ i.ps.length → n ≤ i.ps.length → ∃ dvs us, Vals dvs us ∧ Binds K fd i.ps us ∧ ∀ H m, RepL K H m (i.dfl.drop (n + i.dfl.length - i.ps.length)) dvs
  con : ∀ x d, pg.cons.lookup x = some d → ∃ u v, mg x = some u ∧ RelV v u ∧ ∀ H m, Rep K H m d v
  blt : ∀ x, x ∈ pg.blts → mg x = none
  exc : ∀ x, x ∈ pg.excs → EVX.ErrC P K mg x
  sub : ∀ c x, c ∈ pg.excs → x ∈ pg.excs → PySem.W.kitOne K (.ref (He.ga K c)) (.ref (He.ga K x)) = some (subE c x)
  ve : ∀ c, c ∈ pg.excs → PySem.W.kitOne K (.ref (He.ga K c)) (.type "ValueError") = some true
  sys : (K.lookup sysModules).isSome = true

structure Ctx (X : Cx) (sc : Scope) (N : List Str) (pg : Pg) (ca : Ca) (lev : Nat) (W : WX) : Prop where
  sc : X.env.scope = sc
  names : X.N = N
  nd : X.N.Nodup
  calm : X.calm = true
  room : Rm lev X.A
  lib : PgOk X.prog X.w X.K X.mg X.base pg ca lev
  tk : Takes X W

def OkE (pg : Pg) (N : List Str) (sc : Scope) (e : Expr) (f : SE) : Prop := ∀ X ca lev W, Ctx X sc N pg ca lev W → PE X e (tE X.K W (f ca))
def OkT (pg : Pg) (N : List Str) (sc : Scope) (e : Expr) (f : ST) : Prop := ∀ X ca lev W, Ctx X sc N pg ca lev W → PT X e (tT X.K W (f ca))
def OkA (pg : Pg) (N : List Str) (sc : Scope) (es : List Expr) (f : SA) : Prop := ∀ X ca lev W, Ctx X sc N pg ca lev W → PA X es (tA X.K W (f ca))
end EV

namespace EV
open PySem PySem.Spec PyProof.Rows L2

/-! ### results -/
def Outs (K : PySem.W.Frag) (F H : Hp) (m : List Addr) (S : Cells) (b : B) (Q : VK) : Prop := ∀ v F' H' m', Gr K F H m F' H' m' S → RepB K H F' H' m' b v → Q v H'
section
variable {K : PySem.W.Frag} {F H : Hp} {m : List Addr} {S : Cells} {Q : VK}
theorem Outs.val {d : D} {v : V} (w : Wd K F H m S) (o : Outs K F H m S (d, false) Q) (r : Rep K F m d v) : Q v H := o v F H m (Gr.refl w) r
theorem Outs.tup {ds : List D} {xs : List V} (w : Wd K F H m S) (o : Outs K F H m S (.tup ds, false) Q) (r : RepL K F m ds xs) (hz : xs.length ≤ sizeLine) (p : Addr) (hp : H p = none) : Q (.ref p) (upd H p (.tup xs)) := by
  refine o (.ref p) (upd F p (.tup xs)) _ m (Gr.layF w hp) ?_
  show Rep K _ m (.tup ds) _
  simp only [Rep]
  exact ⟨p, xs, rfl, SqT.of upd_same, hz, r.up (sub_upd (w.newF hp)) Ext.refl⟩
theorem Outs.lst {ds : List D} {xs : List V} (w : Wd K F H m S) (o : Outs K F H m S (.lst ds, true) Q) (r : RepL K F m ds xs) (hz : xs.length ≤ sizeLine) (p : Addr) (hp : H p = none) : Q (.ref p) (upd H p (.lst xs)) :=
  o (.ref p) F _ m (Gr.lay w hp) ⟨p, xs, ds, rfl, rfl, hp, upd_same, w.newF hp, w.newNot hp, hz, r⟩
end

def rD1 (K : PySem.W.Frag) (g : Cells → D → Option B) : V → Hp → VK → Prop := fun x H Q => ∃ F m S d b, Wd K F H m S ∧ Rep K F m d x ∧ g S d = some b ∧ Outs K F H m S b Q
def rD2 (K : PySem.W.Frag) (g : Cells → D → D → Option B) : R2 := fun x y H Q => ∃ F m S d e b, Wd K F H m S ∧ Rep K F m d x ∧ Rep K F m e y ∧ g S d e = some b ∧ Outs K F H m S b Q
def rDn (K : PySem.W.Frag) (g : Cells → List D → Option B) : List V → Hp → VK → Prop := fun xs H Q => ∃ F m S ds b, Wd K F H m S ∧ RepL K F m ds xs ∧ g S ds = some b ∧ Outs K F H m S b Q

def lift (o : Option B) (S : Cells) : R B :=
  match o with
  | some b => .ok b S
  | none => .no

/-! ### the combinators -/
def cVar (i : Nat) : SE := fun _ ρ S =>
  match ρ[i]? with
  | some (some d) => .ok (d, false) S
  | _ => .no
def cCon (d : D) : SE := fun _ _ S => .ok (d, false) S
def cOp1 (g : Cells → D → Option B) (f : SE) : SE := fun ca ρ S => (f ca ρ S).bind fun a S => lift (g S a.1) S
def cOp2 (g : Cells → D → D → Option B) (f h : SE) : SE := fun ca ρ S => (f ca ρ S).bind fun a S => (h ca ρ S).bind fun b S => lift (g S a.1 b.1) S
def cOpn (g : Cells → List D → Option B) (a : SA) : SE := fun ca ρ S => (a ca ρ S).bind fun ds S => lift (g S ds) S
def aNil : SA := fun _ _ S => .ok [] S
def aCons (f : SE) (a : SA) : SA := fun ca ρ S => (f ca ρ S).bind fun b S => (a ca ρ S).bind fun ds S => .ok (b.1 :: ds) S
def gTupN (_ : Cells) (ds : List D) : Option B := if ds.length ≤ 16777216 then some (.tup ds, false) else none
def gLstN (_ : Cells) (ds : List D) : Option B := if ds.length ≤ 16777216 then some (.lst ds, true) else none
def cCall (k : Fk) (dfl : List D) (a : SA) : SE := fun ca ρ S => (a ca ρ S).bind fun ds S => ca k (ds ++ dfl) S

theorem line24 : sizeLine = 16777216 := by decide

section
variable {pg : Pg} {N : List Str} {sc : Scope}
/-! ### names, constants -/
def visB (sc : Scope) (x : Str) : Bool := match sc.names.lookup x with
  | some .local => true
  | some .cell => true
  | some .free => true
  | _ => false
def glB (sc : Scope) (x : Str) : Bool := match sc.names.lookup x with
  | some .globalImplicit => true
  | _ => false
theorem visB_ok {x : Str} (h : visB sc x = true) : Vis sc x := by
  unfold visB at h
  split at h
  · exact .inl (by assumption)
  · exact .inr (.inl (by assumption))
  · exact .inr (.inr (by assumption))
  · cases h
def slot? (N : List Str) (x : Str) : Option Nat := N.findIdx? (· == x)
theorem slot_ok {x : Str} {i : Nat} (h : slot? N x = some i) : N[i]? = some x := by
  unfold slot? at h
  obtain ⟨h1, h2, _⟩ := List.findIdx?_eq_some_iff_getElem.mp h
  rw [List.getElem?_eq_getElem h1]
  exact congrArg some (eq_of_beq h2)
def plainName (x : Str) : Bool := !(x == ("__debug__" : Str)) && !(x == ("__classdict__" : Str)) && !(x == ("__name__" : Str))
theorem plain1 {x : Str} (h : plainName x = true) : (x == ("__debug__" : Str)) = false ∧ (x == ("__classdict__" : Str)) = false ∧ x ≠ "__name__" := by
  unfold plainName at h
  simp only [Bool.and_eq_true, Bool.not_eq_true'] at h
  exact ⟨h.1.1, h.1.2, fun e => by
    have := h.2
    rw [beq_eq_false_iff_ne] at this
    exact this e⟩
theorem okVar {x : Str} {i : Nat} {pos : Pos} (h : slot? N x = some i) (hv : visB sc x = true) (hp : plainName x = true) : OkE pg N sc (.Name x pos) (cVar i) := fun X ca lev W C => by
  refine PE.imp (pe_var (i := i) (by rw [C.names]; exact slot_ok h) (by rw [C.sc]; exact visB_ok hv) (plain1 hp).1 (plain1 hp).2.1) fun σ H Q ⟨ρ, S, F, m, w, r, q⟩ => ?_
  unfold cVar at q
  split at q
  · rename_i d e
    obtain ⟨v, h1, h2⟩ := r.2 i d e
    exact ⟨v, h1, q F H m (Gr.refl w) v h2⟩
  · exact q.elim
theorem Ctx.gl {X : Cx} {ca : Ca} {lev : Nat} {W : WX} (C : Ctx X sc N pg ca lev W) {x : Str} (h : glB sc x = true) : Gl X x := by
  unfold glB at h
  split at h
  · show X.env.scope.names.lookup x = _
    rw [C.sc]; assumption
  · cases h
theorem okGlob {x : Str} {d : D} {pos : Pos} (hg : glB sc x = true) (hp : plainName x = true) (hd : pg.cons.lookup x = some d) : OkE pg N sc (.Name x pos) (cCon d) := fun X ca lev W C => by
  obtain ⟨u, v, h1, h2, h3⟩ := C.lib.con x d hd
  refine PE.imp (pe_glob (C.gl hg) h1 h2 (plain1 hp).1) fun σ H Q ⟨ρ, S, F, m, w, r, q⟩ => ?_
  exact q F H m (Gr.refl w) v (h3 F m)
theorem okNon {j : Nat} {pos : Pos} : OkE pg N sc (.Constant .none j pos) (cCon .non) := fun X ca lev W C =>
  PE.imp pe_non fun σ H Q ⟨ρ, S, F, m, w, r, q⟩ => q F H m (Gr.refl w) _ (by show Rep _ _ _ _ _; simp only [Rep])
theorem okBl {b : Bool} {j : Nat} {pos : Pos} : OkE pg N sc (.Constant (.bool b) j pos) (cCon (.bl b)) := fun X ca lev W C =>
  PE.imp pe_bl fun σ H Q ⟨ρ, S, F, m, w, r, q⟩ => q F H m (Gr.refl w) _ (by show Rep _ _ _ _ _; simp only [Rep])
theorem okInt {i : Int} {j : Nat} {pos : Pos} : OkE pg N sc (.Constant (.int i) j pos) (cCon (.int i)) := fun X ca lev W C =>
  PE.imp pe_int fun σ H Q ⟨ρ, S, F, m, w, r, q⟩ => q F H m (Gr.refl w) _ (by show Rep _ _ _ _ _; simp only [Rep])
theorem okStr {x : Str} {j : Nat} {pos : Pos} (hx : x.length ≤ 16777216) (hc : cpOk x = true) : OkE pg N sc (.Constant (.str x) j pos) (cCon (.str x)) := fun X ca lev W C =>
  PE.imp pe_str fun σ H Q ⟨ρ, S, F, m, w, r, q⟩ => q F H m (Gr.refl w) _ (by show Rep _ _ _ _ _; simp only [Rep]; rw [line24]; exact ⟨trivial, hx, hc⟩)

/-! ### lists of arguments -/
def noStar : Expr → Bool
  | .Starred .. => false
  | _ => true
theorem starEach_cons {e : Expr} {es : List Expr} {env : Env} (h : noStar e = true) : starEach (e :: es) env = (false, eval e env) :: starEach es env := by
  cases e <;> first | rfl | cases h
theorem noStar_any {pos : Pos} {env : Env} : ∀ {es : List Expr}, es.all noStar = true → (backTo pos (starEach es env)).any (·.1) = false
  | [], _ => rfl
  | e :: es, h => by
    simp only [List.all_cons, Bool.and_eq_true] at h
    rw [starEach_cons h.1]
    show (false || (backTo pos (starEach es env)).any (·.1)) = false
    rw [noStar_any h.2]; rfl
theorem okNil : OkA pg N sc [] aNil := fun X ca lev W C => PA.imp pa_nil fun σ H Q ⟨ρ, S, F, m, w, r, q⟩ => q F H m (Gr.refl w) [] .nil
theorem okCons {e : Expr} {es : List Expr} {f : SE} {a : SA} (hs : noStar e = true) (he : OkE pg N sc e f) (ha : OkA pg N sc es a) : OkA pg N sc (e :: es) (aCons f a) := fun X ca lev W C => by
  refine PA.imp (pa_cons (he X ca lev W C) (ha X ca lev W C) (starEach_cons hs)) fun σ H Q ⟨ρ, S, F, m, w, r, q⟩ => ?_
  refine tE.ofF w r (Post.mono (Post.bind q) fun b S1 F1 H1 m1 e1 g1 q1 v rv => ?_)
  refine ⟨ρ, S1, F1, m1, g1.w, r.gr g1, Post.mono (Post.bind q1) fun ds S2 F2 H2 m2 e2 g2 q2 vs rvs => ?_⟩
  exact q2 F2 H2 m2 (Gr.refl g2.w) (v :: vs) (.cons (rv.gr g2) rvs)

/-! ### operations -/
theorem post_lift {K : PySem.W.Frag} {W : WX} {σ : St} {F H : Hp} {m : List Addr} {S : Cells} {o : Option B} {H0 : Hp} {Q : VK} (hH : ∀ p, H p = none → H0 p = none)
    (h : Post K W σ F H m (lift o S) fun b _ F' H' m' => ∀ v, RepB K H0 F' H' m' b v → Q v H') : ∃ b, o = some b ∧ Outs K F H m S b Q := by
  cases o with
  | none => exact h.elim
  | some b =>
    refine ⟨b, rfl, fun v F' H' m' g r => h F' H' m' g v ?_⟩
    obtain ⟨d, o⟩ := b
    cases o with
    | false => exact r
    | true =>
      obtain ⟨p, xs, ds, e1, e2, h0, hr⟩ := r
      exact ⟨p, xs, ds, e1, e2, hH p h0, hr⟩
theorem op2_pre {X : Cx} {W : WX} {ca : Ca} {g : Cells → D → D → Option B} {fa fb : SE} {σ : St} {H : Hp} {Q : VK} (h : tE X.K W (cOp2 g fa fb ca) σ H Q) :
    tOp (rD2 X.K g) (tE X.K W (fa ca)) (tE X.K W (fb ca)) σ H Q := by
  obtain ⟨ρ, S, F, m, w, r, q⟩ := h
  refine tE.ofF w r (Post.mono (Post.bind q) fun b S1 F1 H1 m1 e1 g1 q1 x rx => ?_)
  refine tE.ofF g1.w (r.gr g1) (Post.mono (Post.bind q1) fun b2 S2 F2 H2 m2 e2 g2 q2 y ry => ?_)
  obtain ⟨bb, e3, o⟩ := post_lift (fun p h0 => (g1.trans g2).fresh h0) q2
  exact ⟨F2, m2, S2, b.1, b2.1, bb, g2.w, rx.gr g2, ry, e3, o⟩
theorem okBin {a b : Expr} {op : Operator} {pos : Pos} {g : Cells → D → D → Option B} {fa fb : SE} (ho : ∀ X, OpR X (binaryOp op) (rD2 X.K g)) (ha : OkE pg N sc a fa) (hb : OkE pg N sc b fb) :
    OkE pg N sc (.BinOp a op b pos) (cOp2 g fa fb) := fun X ca lev W C =>
  PE.imp (pe_op (ho X) (ha X ca lev W C) (hb X ca lev W C)) fun σ H Q h => op2_pre h
theorem okUn {a : Expr} {op : UnaryOp} {pos : Pos} {g : Cells → D → Option B} {fa : SE} (ho : ∀ X, UnR X (unaryOp op) (rD1 X.K g)) (ha : OkE pg N sc a fa) : OkE pg N sc (.UnaryOp op a pos) (cOp1 g fa) := fun X ca lev W C => by
  refine PE.imp (pe_un (ho X) (ha X ca lev W C)) fun σ H Q ⟨ρ, S, F, m, w, r, q⟩ => ?_
  refine tE.ofF w r (Post.mono (Post.bind q) fun b S1 F1 H1 m1 e1 g1 q1 x rx => ?_)
  obtain ⟨bb, e3, o⟩ := post_lift (fun p h0 => g1.fresh h0) q1
  exact ⟨F1, m1, S1, b.1, bb, g1.w, rx, e3, o⟩
theorem opn_pre {X : Cx} {W : WX} {ca : Ca} {g : Cells → List D → Option B} {fa : SA} {σ : St} {H : Hp} {Q : VK} (h : tE X.K W (cOpn g fa ca) σ H Q) :
    tA X.K W (fa ca) σ H fun vs H1 => rDn X.K g vs H1 Q := by
  obtain ⟨ρ, S, F, m, w, r, q⟩ := h
  refine ⟨ρ, S, F, m, w, r, Post.mono (Post.bind q) fun ds S1 F1 H1 m1 e1 g1 q1 vs rvs => ?_⟩
  obtain ⟨bb, e3, o⟩ := post_lift (fun p h0 => g1.fresh h0) q1
  exact ⟨F1, m1, S1, ds, bb, g1.w, rvs, e3, o⟩
theorem okTup {es : List Expr} {k : Nat} {pos : Pos} {a : SA} (h : OkA pg N sc es a) : OkE pg N sc (.Tuple es k pos) (cOpn gTupN a) := fun X ca lev W C => by
  refine PE.imp (pe_tup (h X ca lev W C)) fun σ H Q q => ?_
  obtain ⟨ρ, S, F, m, w, r, q⟩ := opn_pre q
  refine ⟨ρ, S, F, m, w, r, Post.mono q fun ds S1 F1 H1 m1 e1 g1 q1 vs rvs => ?_⟩
  obtain ⟨F2, m2, S2, es2, b, w2, r2, e, o⟩ := q1 vs rvs
  unfold gTupN at e
  split at e
  · cases e
    have hz : vs.length ≤ sizeLine := by rw [line24, ← r2.length]; assumption
    exact ⟨hz, fun p hp => Outs.tup w2 o r2 hz p hp⟩
  · cases e
theorem okLst {es : List Expr} {pos : Pos} {a : SA} (h : OkA pg N sc es a) : OkE pg N sc (.List es pos) (cOpn gLstN a) := fun X ca lev W C => by
  refine PE.imp (pe_lst (h X ca lev W C)) fun σ H Q q => ?_
  obtain ⟨ρ, S, F, m, w, r, q⟩ := opn_pre q
  refine ⟨ρ, S, F, m, w, r, Post.mono q fun ds S1 F1 H1 m1 e1 g1 q1 vs rvs => ?_⟩
  obtain ⟨F2, m2, S2, es2, b, w2, r2, e, o⟩ := q1 vs rvs
  unfold gLstN at e
  split at e
  · cases e
    have hz : vs.length ≤ sizeLine := by rw [line24, ← r2.length]; assumption
    exact ⟨hz, fun p hp => Outs.lst w2 o r2 hz p hp⟩
  · cases e
/-- a built-in function, a type called -/
theorem okCallB {x : Str} {id : String} {e : Expr} {es : List Expr} {p pos : Pos} {g : Cells → List D → Option B} {a : SA} (ho : ∀ X, X.calm = true → Rm 0 X.A → CallR X (.builtin id) (rDn X.K g)) (hg : glB sc x = true) (hp : plainName x = true) (hb : x ∈ pg.blts) (hv : bootBuiltins x = some (.builtin id))
    (hs : (e :: es).all noStar = true) (ha : OkA pg N sc (e :: es) a) : OkE pg N sc (.Call (.Name x p) (e :: es) [] pos) (cOpn g a) := fun X ca lev W C => by
  have hs' : noStar e = true ∧ es.all noStar = true := by simpa only [List.all_cons, Bool.and_eq_true] using hs
  refine PE.imp (pe_callB (ho X C.calm (C.room.mono (Nat.zero_le _))) (C.gl hg) (C.lib.blt x hb) hv (ha X ca lev W C) (plain1 hp).2.2 (plain1 hp).1 (starEach_cons hs'.1) (noStar_any hs'.2)) fun σ H Q q => opn_pre q
theorem okCallT {x : Str} {id : String} {e : Expr} {es : List Expr} {p pos : Pos} {g : Cells → List D → Option B} {a : SA} (ho : ∀ X, X.calm = true → Rm 0 X.A → CallR X (.type id) (rDn X.K g)) (hg : glB sc x = true) (hp : plainName x = true) (hb : x ∈ pg.blts) (hv : bootBuiltins x = some (.type id))
    (hs : (e :: es).all noStar = true) (ha : OkA pg N sc (e :: es) a) : OkE pg N sc (.Call (.Name x p) (e :: es) [] pos) (cOpn g a) := fun X ca lev W C => by
  have hs' : noStar e = true ∧ es.all noStar = true := by simpa only [List.all_cons, Bool.and_eq_true] using hs
  refine PE.imp (pe_callTy (ho X C.calm (C.room.mono (Nat.zero_le _))) (C.gl hg) (C.lib.blt x hb) hv (ha X ca lev W C) (plain1 hp).2.2 (plain1 hp).1 (starEach_cons hs'.1) (noStar_any hs'.2)) fun σ H Q q => opn_pre q
end
end EV

namespace EV
open PySem PySem.Spec PyProof.Rows L2

/-! ### a def is called -/
theorem run_fnG {X : Cx} {W : WX} {k : Nat} {f : Addr} {fd : FuncData} {ps : List Str} {sp : Sp} {dvs : List V} {ds : List Value} {pins : List (Addr × Obj)} {σ : St} {H : Hp} {s : Shared} {Q : VK} {us : List Value} {vs : List V}
    (F : FnG X.prog X.w X.K X.mg X.base (CX X.prog X.w) k f fd ps sp) (hr : Rm k X.A) (hb : Binds X.K fd ps ds) (hd : Vals dvs ds) (tk : Takes X W) (I : Inv X pins σ H s) (r : Vals vs us)
    (h : sp (vs ++ dvs) H Q fun c d H' => W c d σ H') : wpAny (model X.prog X.w) X.A (call (.ref f) us) (EP X pins σ Q) X.xe s := by
  have r2 : Vals (vs ++ dvs) (us ++ ds) := r.append hd
  have hl : (us ++ ds).length = ps.length := r2.length ▸ F.len _ _ _ _ h
  have z := F.run X.A X.stack s H ⟨us, []⟩ (us ++ ds) (vs ++ dvs) Q _ hr I.env0 (hb s us I.kIn hl) r2 h
  refine wpAny_call (codeAny_mono z fun e s' hq => ?_)
  cases e with
  | error e => exact tk e s' (XE.of_call I (fun _ _ _ q => q) hq)
  | ok fl =>
    cases fl with
    | ret u => exact I.after hq
    | next => exact hq.elim
    | brk => exact hq.elim
    | cont => exact hq.elim

section
variable {pg : Pg} {N : List Str} {sc : Scope}
/-- from the arguments to the callee's promise -/
theorem call_sp {K : PySem.W.Frag} {W : WX} {ca : Ca} {k : Fk} {dfl : List D} {σ : St} {H H0 : Hp} {F : Hp} {m : List Addr} {S : Cells} {Q : VK} {ds : List D} {vs dvs : List V} {n : Nat} (w : Wd K F H m S) (hH : ∀ p, H p = none → H0 p = none)
    (q : Post K W σ F H m (ca k (ds ++ dfl) S) fun b _ F' H' m' => ∀ v, RepB K H0 F' H' m' b v → Q v H') (r : RepL K F m ds vs) (rd : RepL K F m dfl dvs) (hn : (vs ++ dvs).length = n) :
    spOf K ca k n (vs ++ dvs) H Q fun c d H' => W c d σ H' := by
  refine ⟨hn, ds ++ dfl, S, F, m, w, r.append rd, ?_⟩
  cases e : ca k (ds ++ dfl) S with
  | ok b S' =>
    rw [e] at q
    intro F' H' m' g v rb
    refine q F' H' m' g v ?_
    obtain ⟨d, o⟩ := b
    cases o with
    | false => exact rb
    | true =>
      obtain ⟨p, xs, ds, e1, e2, h0, hr⟩ := rb
      exact ⟨p, xs, ds, e1, e2, hH p h0, hr⟩
  | exn c d S' => rw [e] at q; exact q
  | no => rw [e] at q; exact q
theorem okCall {x : Str} {i : FnI} {e : Expr} {es : List Expr} {p pos : Pos} {a : SA} (hi : pg.fns.lookup x = some i) (hg : glB sc x = true) (hp : plainName x = true) (hs : (e :: es).all noStar = true)
    (h1 : (e :: es).length + i.dfl.length ≥ i.ps.length) (h2 : (e :: es).length ≤ i.ps.length) (ha : OkA pg N sc (e :: es) a) (hlen : ∀ ca ρ S ds S', a ca ρ S = .ok ds S' → ds.length = (e :: es).length) :
    OkE pg N sc (.Call (.Name x p) (e :: es) [] pos) (cCall (x, none) (i.dfl.drop ((e :: es).length + i.dfl.length - i.ps.length)) a) := fun X ca lev W C => by
  have hs' : noStar e = true ∧ es.all noStar = true := by simpa only [List.all_cons, Bool.and_eq_true] using hs
  obtain ⟨f, fd, hm, hk, G, hb⟩ := C.lib.fn x i hi
  obtain ⟨dvs, us0, rv, bn, rd⟩ := hb (e :: es).length h1 h2
  refine ⟨fun pins s σ H Q I h => ?_⟩
  obtain ⟨ρ, S, F, m, w, r, q⟩ := h
  refine wpAny_Call_Name_kw (ld_glob I (C.gl hg) hm ?_ (plain1 hp).1)
  have hA : tA X.K W (a ca) σ H fun vs H1 => spOf X.K ca (x, none) i.ps.length (vs ++ dvs) H1 Q fun c d H' => W c d σ H' := by
    refine ⟨ρ, S, F, m, w, r, Post.mono (Post.bind q) fun ds S1 F1 H1 m1 e1 g1 q1 vs rvs => ?_⟩
    refine call_sp g1.w (fun p h0 => g1.fresh h0) q1 rvs (rd F1 m1) ?_
    have l1 := hlen ca ρ S ds S1 e1
    have l2 := rvs.length
    have l3 := (rd F1 m1).length
    rw [List.length_drop] at l3
    rw [List.length_append]
    omega
  refine PySem.W.callWith_K (h₀ := X.base) I.ok.mod.kin hk (thn ((ha X ca lev W C).run pos pins s σ H _ I hA) fun us s1 ⟨vs, H1, I1, r1, q1⟩ => ⟨I1.kIn, ?_⟩) (starEach_cons hs'.1) (noStar_any hs'.2)
  exact run_fnG G C.room bn rv C.tk I1 r1 q1

/-! ### tests -/
def tNotT (f : ST) : ST := fun ca ρ S => (f ca ρ S).bind fun b S => .ok (!b) S
def tAndT (f g : ST) : ST := fun ca ρ S => (f ca ρ S).bind fun b S => match b with
  | true => g ca ρ S
  | false => .ok false S
def tOrT (f g : ST) : ST := fun ca ρ S => (f ca ρ S).bind fun b S => match b with
  | true => .ok true S
  | false => g ca ρ S
/-- the truth of a value -/
def tru : D → Option Bool
  | .non => some false
  | .bl b => some b
  | .int i => some (i != 0)
  | .str x => some ((x.length : Int) != 0)
  | .tup ds => some (!ds.isEmpty)
  | .lst ds => some (!ds.isEmpty)
  | _ => none
def tVal (f : SE) : ST := fun ca ρ S => (f ca ρ S).bind fun b S => match tru b.1 with
  | some k => .ok k S
  | none => .no
def OkW (pg : Pg) (N : List Str) (sc : Scope) (e : Expr) (f : ST) : Prop := ∀ X ca lev W, Ctx X sc N pg ca lev W → PW X e (tT X.K W (f ca))
theorem OkW.t {e : Expr} {f : ST} (h : OkW pg N sc e f) : OkT pg N sc e f := fun X ca lev W C => (h X ca lev W C).pt
theorem okTNot {a : Expr} {f : ST} {pos : Pos} (h : OkT pg N sc a f) : OkT pg N sc (.UnaryOp .Not a pos) (tNotT f) := fun X ca lev W C =>
  PT.imp (pt_not (h X ca lev W C)) fun σ H Q ⟨ρ, S, F, m, w, r, q⟩ => ⟨ρ, S, F, m, w, r, Post.mono (Post.bind q) fun b S1 F1 H1 m1 e1 g1 q1 => q1 F1 H1 m1 (Gr.refl g1.w)⟩
theorem okTAnd1 {a : Expr} {f : ST} {pos : Pos} (h : OkT pg N sc a f) : OkW pg N sc (.BoolOp .And [a] pos) f := fun X ca lev W C => pw_and1 (h X ca lev W C)
theorem okTOr1 {a : Expr} {f : ST} {pos : Pos} (h : OkT pg N sc a f) : OkW pg N sc (.BoolOp .Or [a] pos) f := fun X ca lev W C => pw_or1 (h X ca lev W C)
theorem okTAnd {a b : Expr} {es : List Expr} {f g : ST} {pos : Pos} (h : OkT pg N sc a f) (k : OkW pg N sc (.BoolOp .And (b :: es) pos) g) : OkW pg N sc (.BoolOp .And (a :: b :: es) pos) (tAndT f g) := fun X ca lev W C =>
  PW.imp (pw_and (h X ca lev W C) (k X ca lev W C)) fun σ H Q ⟨ρ, S, F, m, w, r, q⟩ => ⟨ρ, S, F, m, w, r, Post.mono (Post.bind q) fun b S1 F1 H1 m1 e1 g1 q1 => by
    cases b with
    | true => exact ⟨ρ, S1, F1, m1, g1.w, r.gr g1, q1⟩
    | false => exact q1 F1 H1 m1 (Gr.refl g1.w)⟩
theorem okTOr {a b : Expr} {es : List Expr} {f g : ST} {pos : Pos} (h : OkT pg N sc a f) (k : OkW pg N sc (.BoolOp .Or (b :: es) pos) g) : OkW pg N sc (.BoolOp .Or (a :: b :: es) pos) (tOrT f g) := fun X ca lev W C =>
  PW.imp (pw_or (h X ca lev W C) (k X ca lev W C)) fun σ H Q ⟨ρ, S, F, m, w, r, q⟩ => ⟨ρ, S, F, m, w, r, Post.mono (Post.bind q) fun b S1 F1 H1 m1 e1 g1 q1 => by
    cases b with
    | true => exact q1 F1 H1 m1 (Gr.refl g1.w)
    | false => exact ⟨ρ, S1, F1, m1, g1.w, r.gr g1, q1⟩⟩
theorem tru_sound {K : PySem.W.Frag} {F H : Hp} {m : List Addr} {d : D} {x : V} {k : Bool} (s : Sub F H) (r : Rep K F m d x) (h : tru d = some k) : TruV K x H k := by
  cases d with
  | non => simp only [Rep] at r; subst r; simp only [tru] at h; cases h; first | exact rfl | trivial
  | bl b => simp only [Rep] at r; subst r; simp only [tru] at h; cases h; first | exact rfl | trivial
  | int i => simp only [Rep] at r; subst r; simp only [tru] at h; cases h; first | exact rfl | trivial
  | str z =>
    simp only [Rep] at r; obtain ⟨rfl, hz, _⟩ := r; simp only [tru] at h; cases h
    first
      | exact rfl
      | exact ⟨hz, rfl⟩
  | tup ds =>
    simp only [Rep] at r; obtain ⟨p, xs, rfl, hq, hz, rl⟩ := r; simp only [tru] at h; cases h
    have e : (!ds.isEmpty) = !xs.isEmpty := by have := rl.length; cases ds <;> cases xs <;> simp_all
    rw [e]
    exact .inr (.inl ⟨xs, SqT.sub s hq, rfl⟩)
  | lst ds =>
    simp only [Rep] at r; obtain ⟨p, xs, rfl, hq, hz, rl⟩ := r; simp only [tru] at h; cases h
    have e : (!ds.isEmpty) = !xs.isEmpty := by have := rl.length; cases ds <;> cases xs <;> simp_all
    rw [e]
    exact .inl ⟨xs, SqL.of (s _ _ hq), rfl⟩
  | _ => simp only [tru] at h; cases h

def plainT : Expr → Bool
  | .UnaryOp .Not _ _ => false
  | .BoolOp .. => false
  | .IfExp .. => false
  | .Compare .. => false
  | _ => true
theorem isTrue_plainT {e : Expr} {env : Env} (h : plainT e = true) (whole : Sem Value) : isTrue e env whole = (do let v ← whole; standAt e.pos; holding [v] (truthy v)) := by
  cases e <;> first | rfl | cases h | (rename_i op _ _; cases op <;> first | rfl | cases h)
theorem okTVal {e : Expr} {f : SE} (hp : plainT e = true) (h : OkE pg N sc e f) : OkT pg N sc e (tVal f) := fun X ca lev W C =>
  PT.imp (pt_truth (h X ca lev W C) (isTrue_plainT hp)) fun σ H Q ⟨ρ, S, F, m, w, r, q⟩ => by
    refine tE.ofF w r (Post.mono (Post.bind q) fun b S1 F1 H1 m1 e1 g1 q1 x rx => ?_)
    cases t : tru b.1 with
    | none => rw [t] at q1; exact q1.elim
    | some k =>
      rw [t] at q1
      exact ⟨k, tru_sound g1.w.sub rx t, q1 F1 H1 m1 (Gr.refl g1.w)⟩
/-! ### comparisons -/
def tBl (f : SE) : ST := fun ca ρ S => (f ca ρ S).bind fun b S => match b.1 with
  | .bl k => .ok k S
  | _ => .no
theorem okCmp {a b : Expr} {op : CmpOp} {pos : Pos} {g : Cells → D → D → Option B} {fa fb : SE} (ho : ∀ X, Rm 0 X.A → OpR X (compareOp op) (rD2 X.K g)) (hm : behindInMarks op b = false) (ha : OkE pg N sc a fa) (hb : OkE pg N sc b fb) :
    OkE pg N sc (.Compare a [op] [b] pos) (cOp2 g fa fb) := fun X ca lev W C =>
  PE.imp (pe_cmpR (ho X (C.room.mono (Nat.zero_le _))) (ha X ca lev W C) (hb X ca lev W C) hm) fun σ H Q h => op2_pre h
theorem okTCmp {a b : Expr} {op : CmpOp} {pos : Pos} {g : Cells → D → D → Option B} {fa fb : SE} (ho : ∀ X, Rm 0 X.A → OpR X (compareOp op) (rD2 X.K g)) (hm : behindInMarks op b = false) (ha : OkE pg N sc a fa) (hb : OkE pg N sc b fb) :
    OkT pg N sc (.Compare a [op] [b] pos) (tBl (cOp2 g fa fb)) := fun X ca lev W C =>
  PT.imp (pt_cmpR (ho X (C.room.mono (Nat.zero_le _))) (ha X ca lev W C) (hb X ca lev W C) hm) fun σ H Q ⟨ρ, S, F, m, w, r, q⟩ => by
    refine op2_pre (W := W) ⟨ρ, S, F, m, w, r, Post.mono (Post.bind q) fun b S1 F1 H1 m1 e1 g1 q1 v rv => ?_⟩
    obtain ⟨d, o⟩ := b
    cases d with
    | bl k =>
      cases o with
      | false =>
        have rv' : Rep X.K F1 m1 (.bl k) v := rv
        simp only [Rep] at rv'
        exact ⟨k, rv', q1 F1 H1 m1 (Gr.refl g1.w)⟩
      | true =>
        obtain ⟨p, xs, ds, z, _⟩ := rv
        cases z
    | _ => exact q1.elim
/-- a op b op' c -/
def cChain (g g' : Cells → D → D → Option B) (fa fb fc : SE) : SE := fun ca ρ S => (fa ca ρ S).bind fun a S => (fb ca ρ S).bind fun b S =>
  match g S a.1 b.1 with
  | some (.bl true, false) => (fc ca ρ S).bind fun c S => lift (g' S b.1 c.1) S
  | some (.bl false, false) => .ok (.bl false, false) S
  | _ => .no
theorem chain_pre {X : Cx} {W : WX} {ca : Ca} {g g' : Cells → D → D → Option B} {fa fb fc : SE} {σ : St} {H : Hp} {Q : VK} (h : tE X.K W (cChain g g' fa fb fc ca) σ H Q) :
    tChain (rD2 X.K g) (rD2 X.K g') (tE X.K W (fa ca)) (tE X.K W (fb ca)) (tE X.K W (fc ca)) σ H Q := by
  obtain ⟨ρ, S, F, m, w, r, q⟩ := h
  refine tE.ofF w r (Post.mono (Post.bind q) fun b S1 F1 H1 m1 e1 g1 q1 x rx => ?_)
  refine tE.ofF g1.w (r.gr g1) (Post.mono (Post.bind q1) fun b2 S2 F2 H2 m2 e2 g2 q2 y ry => ?_)
  cases e : g S2 b.1 b2.1 with
  | none => rw [e] at q2; exact q2.elim
  | some z =>
    rw [e] at q2
    refine ⟨F2, m2, S2, b.1, b2.1, z, g2.w, rx.gr g2, ry, e, fun v F3 H3 m3 g3 r3 => ?_⟩
    obtain ⟨d, o⟩ := z
    cases d with
    | bl k =>
      cases o with
      | true => cases k <;> exact q2.elim
      | false =>
        have rv' : Rep X.K F3 m3 (.bl k) v := r3
        simp only [Rep] at rv'
        subst rv'
        refine ⟨k, rfl, ?_⟩
        have G := (g1.trans g2).trans g3
        cases k with
        | false =>
          rw [if_neg Bool.false_ne_true]
          exact q2 F3 H3 m3 g3 (.bl false) (by show Rep _ _ _ _ _; simp only [Rep])
        | true =>
          rw [if_pos rfl]
          have q3 : Post X.K W σ F2 H2 m2 ((fc ca ρ S2).bind fun c S => lift (g' S b2.1 c.1) S) _ := q2
          refine ⟨ρ, S2, F3, m3, g3.w, r.gr G, ?_⟩
          have q4 := Post.bind q3
          cases ec : fc ca ρ S2 with
          | no => rw [ec] at q4; exact q4
          | exn c d S4 => rw [ec] at q4; exact Wish.gr g3 q4
          | ok c S4 =>
            rw [ec] at q4
            intro F4 H4 m4 g4 v4 r4
            obtain ⟨F5, g5, _, r5⟩ := freeze g4 r4
            obtain ⟨bb, e3, o⟩ := post_lift (fun p h0 => ((g1.trans g2).trans (g3.trans g5)).fresh h0) (q4 F5 H4 m4 (g3.trans g5))
            exact ⟨F5, m4, S4, b2.1, c.1, bb, g5.w, ry.gr (g3.trans g5), r5, e3, o⟩
    | _ => exact q2.elim
theorem okChain {a b c : Expr} {op op' : CmpOp} {pos : Pos} {g g' : Cells → D → D → Option B} {fa fb fc : SE} (ho : ∀ X, Rm 0 X.A → OpR X (compareOp op) (rD2 X.K g)) (ho' : ∀ X, Rm 0 X.A → OpR X (compareOp op') (rD2 X.K g'))
    (hm : lastMarks [op, op'] [b, c] = false) (ha : OkE pg N sc a fa) (hb : OkE pg N sc b fb) (hc : OkE pg N sc c fc) : OkE pg N sc (.Compare a [op, op'] [b, c] pos) (cChain g g' fa fb fc) := fun X ca lev W C =>
  PE.imp (pe_chain (ho X (C.room.mono (Nat.zero_le _))) (ho' X (C.room.mono (Nat.zero_le _))) (ha X ca lev W C) (hb X ca lev W C) (hc X ca lev W C) hm) fun σ H Q h => chain_pre h
theorem bl_of {K : PySem.W.Frag} {W : WX} {σ : St} {F H : Hp} {m : List Addr} {S : Cells} {ρ : En} {f : SE} {ca : Ca} {Q : Bool → Hp → Prop} (w : Wd K F H m S) (r : REnv K F m ρ σ) (q : Post K W σ F H m (tBl f ca ρ S) fun b _ _ H' _ => Q b H') :
    tE K W (f ca) σ H fun x H' => ∃ k, x = .bl k ∧ Q k H' := by
  refine ⟨ρ, S, F, m, w, r, Post.mono (Post.bind q) fun b S1 F1 H1 m1 e1 g1 q1 v rv => ?_⟩
  obtain ⟨d, o⟩ := b
  cases d with
  | bl k =>
    cases o with
    | false =>
      have rv' : Rep K F1 m1 (.bl k) v := rv
      simp only [Rep] at rv'
      exact ⟨k, rv', q1 F1 H1 m1 (Gr.refl g1.w)⟩
    | true =>
      obtain ⟨p, xs, ds, z, _⟩ := rv
      cases z
  | _ => exact q1.elim
theorem okTChain {a b c : Expr} {op op' : CmpOp} {pos : Pos} {g g' : Cells → D → D → Option B} {fa fb fc : SE} (ho : ∀ X, Rm 0 X.A → OpR X (compareOp op) (rD2 X.K g)) (ho' : ∀ X, Rm 0 X.A → OpR X (compareOp op') (rD2 X.K g'))
    (hm : lastMarks [op, op'] [b, c] = false) (ha : OkE pg N sc a fa) (hb : OkE pg N sc b fb) (hc : OkE pg N sc c fc) : OkT pg N sc (.Compare a [op, op'] [b, c] pos) (tBl (cChain g g' fa fb fc)) := fun X ca lev W C =>
  PT.imp (pt_chain (ho X (C.room.mono (Nat.zero_le _))) (ho' X (C.room.mono (Nat.zero_le _))) (ha X ca lev W C) (hb X ca lev W C) (hc X ca lev W C) hm) fun σ H Q ⟨ρ, S, F, m, w, r, q⟩ => chain_pre (bl_of w r q)
/-! ### a if t else b; and, or, not as values -/
def cIf (t : ST) (f g : SE) : SE := fun ca ρ S => (t ca ρ S).bind fun b S => match b with
  | true => f ca ρ S
  | false => g ca ρ S
theorem post_base {K : PySem.W.Frag} {W : WX} {σ : St} {F H H0 : Hp} {m : List Addr} {r : R B} {Q : VK} (hH : ∀ p, H p = none → H0 p = none)
    (h : Post K W σ F H m r fun b _ F' H' m' => ∀ v, RepB K H0 F' H' m' b v → Q v H') : Post K W σ F H m r fun b _ F' H' m' => ∀ v, RepB K H F' H' m' b v → Q v H' :=
  Post.mono h fun b S1 F1 H1 m1 e1 g1 q1 v rv => q1 v (by
    obtain ⟨d, o⟩ := b
    cases o with
    | false => exact rv
    | true =>
      obtain ⟨p, xs, ds, e1, e2, h0, hr⟩ := rv
      exact ⟨p, xs, ds, e1, e2, hH p h0, hr⟩)
theorem okIf {c a b : Expr} {t : ST} {f g : SE} {pos : Pos} (hc : OkT pg N sc c t) (ha : OkE pg N sc a f) (hb : OkE pg N sc b g) : OkE pg N sc (.IfExp c a b pos) (cIf t f g) := fun X ca lev W C =>
  PE.imp (pe_ifExp (hc X ca lev W C) (ha X ca lev W C) (hb X ca lev W C)) fun σ H Q ⟨ρ, S, F, m, w, r, q⟩ => ⟨ρ, S, F, m, w, r, Post.mono (Post.bind q) fun b S1 F1 H1 m1 e1 g1 q1 => by
    have q2 := post_base (fun p h0 => g1.fresh h0) q1
    cases b with
    | true => exact ⟨ρ, S1, F1, m1, g1.w, r.gr g1, q2⟩
    | false => exact ⟨ρ, S1, F1, m1, g1.w, r.gr g1, q2⟩⟩
def cAnd (f g : SE) : SE := fun ca ρ S => (f ca ρ S).bind fun b S => match b.1 with
  | .bl true => g ca ρ S
  | .bl false => .ok (.bl false, false) S
  | _ => .no
def cOr (f g : SE) : SE := fun ca ρ S => (f ca ρ S).bind fun b S => match b.1 with
  | .bl true => .ok (.bl true, false) S
  | .bl false => g ca ρ S
  | _ => .no
def gNot (_ : Cells) : D → Option B
  | .bl b => some (.bl (!b), false)
  | _ => none
theorem okAnd1 {a : Expr} {f : SE} {op : BoolOp} {pos : Pos} (h : OkE pg N sc a f) : OkE pg N sc (.BoolOp op [a] pos) f := fun X ca lev W C => pe_one (h X ca lev W C)
theorem okAnd {a b : Expr} {es : List Expr} {f g : SE} {pos : Pos} (ha : OkE pg N sc a f) (hb : OkE pg N sc (.BoolOp .And (b :: es) pos) g) : OkE pg N sc (.BoolOp .And (a :: b :: es) pos) (cAnd f g) := fun X ca lev W C =>
  PE.imp (pe_and (ha X ca lev W C) (hb X ca lev W C)) fun σ H Q ⟨ρ, S, F, m, w, r, q⟩ => by
    refine tE.ofF w r (Post.mono (Post.bind q) fun b S1 F1 H1 m1 e1 g1 q1 x rx => ?_)
    obtain ⟨d, o⟩ := b
    cases d with
    | bl k =>
      simp only [Rep] at rx
      refine ⟨k, rx, ?_⟩
      cases k with
      | true => rw [if_pos rfl]; exact ⟨ρ, S1, F1, m1, g1.w, r.gr g1, post_base (fun p h0 => g1.fresh h0) q1⟩
      | false => rw [if_neg Bool.false_ne_true]; exact q1 F1 H1 m1 (Gr.refl g1.w) _ (by show Rep _ _ _ _ _; simp only [Rep])
    | _ => exact q1.elim
theorem okOr {a b : Expr} {es : List Expr} {f g : SE} {pos : Pos} (ha : OkE pg N sc a f) (hb : OkE pg N sc (.BoolOp .Or (b :: es) pos) g) : OkE pg N sc (.BoolOp .Or (a :: b :: es) pos) (cOr f g) := fun X ca lev W C =>
  PE.imp (pe_or (ha X ca lev W C) (hb X ca lev W C)) fun σ H Q ⟨ρ, S, F, m, w, r, q⟩ => by
    refine tE.ofF w r (Post.mono (Post.bind q) fun b S1 F1 H1 m1 e1 g1 q1 x rx => ?_)
    obtain ⟨d, o⟩ := b
    cases d with
    | bl k =>
      simp only [Rep] at rx
      refine ⟨k, rx, ?_⟩
      cases k with
      | true => rw [if_pos rfl]; exact q1 F1 H1 m1 (Gr.refl g1.w) _ (by show Rep _ _ _ _ _; simp only [Rep])
      | false => rw [if_neg Bool.false_ne_true]; exact ⟨ρ, S1, F1, m1, g1.w, r.gr g1, post_base (fun p h0 => g1.fresh h0) q1⟩
    | _ => exact q1.elim
theorem okNot {a : Expr} {f : SE} {pos : Pos} (ha : OkE pg N sc a f) : OkE pg N sc (.UnaryOp .Not a pos) (cOp1 gNot f) := fun X ca lev W C =>
  PE.imp (pe_not (ha X ca lev W C)) fun σ H Q ⟨ρ, S, F, m, w, r, q⟩ => by
    refine tE.ofF w r (Post.mono (Post.bind q) fun b S1 F1 H1 m1 e1 g1 q1 x rx => ?_)
    obtain ⟨d, o⟩ := b
    cases d with
    | bl k =>
      simp only [Rep] at rx
      exact ⟨k, rx, q1 F1 H1 m1 (Gr.refl g1.w) _ (by show Rep _ _ _ _ _; simp only [Rep])⟩
    | _ => exact q1.elim
end
end EV

namespace EV
open PySem PySem.Spec PyProof.Rows L2

/-! ### data as PyData -/
mutual
def toP : D → PyData
  | .bl b => .bool b
  | .int i => .int i
  | .str x => .str x
  | .tup ds => .tuple (toPL ds)
  | .lst ds => .list (toPL ds)
  | _ => .none
def toPL : List D → List PyData
  | [] => []
  | d :: ds => toP d :: toPL ds
end
mutual
def pln : D → Bool
  | .non => true
  | .bl _ => true
  | .int _ => true
  | .str _ => true
  | .tup ds => plnL ds
  | .lst ds => plnL ds
  | _ => false
def plnL : List D → Bool
  | [] => true
  | d :: ds => pln d && plnL ds
end
mutual
theorem Dp.of {K : PySem.W.Frag} {F H : Hp} {m : List Addr} (s : Sub F H) : ∀ (d : D) (x : V), pln d = true → Rep K F m d x → Dp K H x (toP d)
  | .non, x, _, r => by simp only [Rep] at r; subst r; simp only [toP]; exact .non
  | .bl b, x, _, r => by simp only [Rep] at r; subst r; simp only [toP]; exact .bl b
  | .int i, x, _, r => by simp only [Rep] at r; subst r; simp only [toP]; exact .int i
  | .str z, x, _, r => by simp only [Rep] at r; obtain ⟨rfl, _⟩ := r; simp only [toP]; exact .str z
  | .tup ds, x, p, r => by
    simp only [Rep] at r; simp only [pln] at p; simp only [toP]
    obtain ⟨a, xs, rfl, h, _, rl⟩ := r
    exact .tup (SqT.sub s h) (DpAll.of s ds xs p rl)
  | .lst ds, x, p, r => by
    simp only [Rep] at r; simp only [pln] at p; simp only [toP]
    obtain ⟨a, xs, rfl, h, _, rl⟩ := r
    exact .lst (SqL.of (s _ _ h)) (DpAll.of s ds xs p rl)
  | .dic .., x, p, r => by simp only [pln] at p; cases p
  | .ins .., x, p, r => by simp only [pln] at p; cases p
  | .exc .., x, p, r => by simp only [pln] at p; cases p
  | .cel .., x, p, r => by simp only [pln] at p; cases p
  | .scr .., x, p, r => by simp only [pln] at p; cases p
theorem DpAll.of {K : PySem.W.Frag} {F H : Hp} {m : List Addr} (s : Sub F H) : ∀ (ds : List D) (xs : List V), plnL ds = true → RepL K F m ds xs → DpAll K H xs (toPL ds)
  | [], xs, _, r => by simp only [RepL] at r; subst r; simp only [toPL]; exact .nil
  | d :: ds, xs, p, r => by
    simp only [RepL] at r; simp only [plnL, Bool.and_eq_true] at p; simp only [toPL]
    obtain ⟨x, ys, rfl, r1, r2⟩ := r
    exact .cons (Dp.of s d x p.1 r1) (DpAll.of s ds ys p.2 r2)
end
mutual
theorem canLay_toP {K : PySem.W.Frag} {F : Hp} {m : List Addr} : ∀ (d : D) (x : V), Rep K F m d x → (toP d).canLay0 = true
  | .non, _, _ => by simp only [toP]; rfl
  | .bl b, _, _ => by simp only [toP]; rfl
  | .int i, _, _ => by simp only [toP]; rfl
  | .str z, _, r => by simp only [Rep] at r; simp only [toP, PyData.canLay0]; exact r.2.2
  | .tup ds, _, r => by simp only [Rep] at r; obtain ⟨_, xs, _, _, _, r⟩ := r; simp only [toP, PyData.canLay0]; exact canLay_toPL ds xs r
  | .lst ds, _, r => by simp only [Rep] at r; obtain ⟨_, xs, _, _, _, r⟩ := r; simp only [toP, PyData.canLay0]; exact canLay_toPL ds xs r
  | .dic .., _, _ => by simp only [toP]; rfl
  | .ins .., _, _ => by simp only [toP]; rfl
  | .exc .., _, _ => by simp only [toP]; rfl
  | .cel .., _, _ => by simp only [toP]; rfl
  | .scr .., _, _ => by simp only [toP]; rfl
theorem canLay_toPL {K : PySem.W.Frag} {F : Hp} {m : List Addr} : ∀ (ds : List D) (xs : List V), RepL K F m ds xs → PyData.canLayAll0 (toPL ds) = true
  | [], _, _ => by simp only [toPL]; rfl
  | d :: ds, _, r => by
    simp only [RepL] at r
    obtain ⟨x, xs, _, r1, r2⟩ := r
    simp only [toPL, PyData.canLayAll0, canLay_toP d x r1, canLay_toPL ds xs r2]; rfl
end
def eqS (a b : D) : Bool := PyData.eqv (toP a) (toP b)
def flatD (d : D) : Bool := decide ((toP d).depth ≤ 100)
theorem rep_bl {K : PySem.W.Frag} {F : Hp} {m : List Addr} (b : Bool) : Rep K F m (.bl b) (.bl b) := by simp only [Rep]
theorem rep_int {K : PySem.W.Frag} {F : Hp} {m : List Addr} (b : Int) : Rep K F m (.int b) (.int b) := by simp only [Rep]
def bB (b : Bool) : Option B := some (.bl b, false)
def bI (i : Int) : Option B := some (.int i, false)
def dEq (_ : Cells) (a b : D) : Option B := if pln a && pln b && (flatD a || flatD b) then bB (eqS a b) else none
def dNe (_ : Cells) (a b : D) : Option B := if pln a && pln b && (flatD a || flatD b) then bB (!eqS a b) else none
section
variable {X : Cx}
theorem room_eq {k : Nat} {A : Around} {a b : D} (r : Rm k A) (h : (flatD a || flatD b) = true) : A.units + min (toP a).depth (toP b).depth < cLine := by
  have h1 := r.rm.un
  simp only [flatD, Bool.or_eq_true, decide_eq_true_eq] at h
  omega
theorem opEq (r : Rm 0 X.A) : OpR X (compareOp .Eq) (rD2 X.K dEq) := by
  intro pins s σ H x y v u Q I rx ry h
  obtain ⟨F, m, S, d, e, b, w, r1, r2, he, o⟩ := h
  unfold dEq at he
  split at he
  · rename_i hc
    simp only [Bool.and_eq_true] at hc
    obtain ⟨as, q1⟩ := Dp.reads I _ x v (Dp.of w.sub d x hc.1.1 r1) rx
    obtain ⟨bs, q2⟩ := Dp.reads I _ y u (Dp.of w.sub e y hc.1.2 r2) ry
    cases he
    exact SeqAt.compareEq_reads q1 q2 (canLay_toP d x r1) (canLay_toP e y r2) (room_eq r hc.2) ⟨.bl _, H, I, rfl, o.val w (rep_bl _)⟩
  · cases he
theorem opNe (r : Rm 0 X.A) : OpR X (compareOp .NotEq) (rD2 X.K dNe) := by
  intro pins s σ H x y v u Q I rx ry h
  obtain ⟨F, m, S, d, e, b, w, r1, r2, he, o⟩ := h
  unfold dNe at he
  split at he
  · rename_i hc
    simp only [Bool.and_eq_true] at hc
    obtain ⟨as, q1⟩ := Dp.reads I _ x v (Dp.of w.sub d x hc.1.1 r1) rx
    obtain ⟨bs, q2⟩ := Dp.reads I _ y u (Dp.of w.sub e y hc.1.2 r2) ry
    cases he
    exact SeqAt.compareNe_reads q1 q2 (canLay_toP d x r1) (canLay_toP e y r2) (room_eq r hc.2) ⟨.bl _, H, I, rfl, o.val w (rep_bl _)⟩
  · cases he
/-! ### in -/
def anyEq (x : D) (ds : List D) : Bool := ds.any fun z => eqS z x
theorem anyEq_toPL (x : D) : ∀ ds : List D, (toPL ds).any (fun z => PyData.eqv z (toP x)) = anyEq x ds
  | [] => by simp only [toPL, anyEq, List.any_nil]
  | d :: ds => by
    have ih := anyEq_toPL x ds
    simp only [toPL, anyEq, List.any_cons] at ih ⊢
    rw [ih]; rfl
def strIn (y i : Str) : Bool := !(Builtin.Str.occurrences y i 0 y.length 1).isEmpty
def isIn (x c : D) : Option Bool := match c with
  | .lst ds => if pln x && plnL ds && flatD x then some (anyEq x ds) else none
  | .tup ds => if pln x && plnL ds && flatD x then some (anyEq x ds) else none
  | .str y => (match x with
    | .str i => some (strIn y i)
    | _ => none)
  | _ => none
def dIn (_ : Cells) (x c : D) : Option B := (isIn x c).bind fun b => bB b
def dNotIn (_ : Cells) (x c : D) : Option B := (isIn x c).bind fun b => bB (!b)
theorem room_in {k : Nat} {A : Around} {a : D} {xs : List PyData} (r : Rm k A) (h : flatD a = true) : A.units + 1 + min (PyData.depthAll xs) (toP a).depth < cLine := by
  have h1 := r.rm.un
  simp only [flatD, decide_eq_true_eq] at h
  omega
theorem in_core {x c : V} {d e : D} {K : PySem.W.Frag} {F H : Hp} {m : List Addr} {neg : Bool} (r : Rm 0 X.A) {pins : List (Addr × Obj)} {s : Shared} {σ : St} {v u : Value} {Q : VK} (hK : X.K = K) (I : Inv X pins σ H s) (rx : RelV x v) (ry : RelV c u)
    (sb : Sub F H) (r1 : Rep K F m d x) (r2 : Rep K F m e c) {k : Bool} (hk : isIn d e = some k) (q : Q (.bl (if neg then !k else k)) H) : wpAny (model X.prog X.w) X.A (compareOp (if neg then .NotIn else .In) v u) (EP X pins σ Q) X.xe s := by
  subst hK
  unfold isIn at hk
  split at hk
  · rename_i ds
    split at hk
    · rename_i hc
      simp only [Bool.and_eq_true] at hc
      cases hk
      obtain ⟨as, q1⟩ := Dp.reads I _ x v (Dp.of sb d x hc.1.1 r1) rx
      obtain ⟨bs, q2⟩ := Dp.reads I _ c u (Dp.of sb (.lst ds) c (by simp only [pln]; exact hc.1.2) r2) ry
      simp only [toP] at q2
      have hl : (PyData.list (toPL ds)).canLay0 = true := by have := canLay_toP _ c r2; simpa only [toP] using this
      rw [← anyEq_toPL] at q
      cases neg with
      | false => exact SeqAt.in_list_reads q2 q1 hl (canLay_toP d x r1) (room_in r hc.2) ⟨.bl _, H, I, rfl, q⟩
      | true => exact SeqAt.notIn_list_reads q2 q1 hl (canLay_toP d x r1) (room_in r hc.2) ⟨.bl _, H, I, rfl, q⟩
    · cases hk
  · rename_i ds
    split at hk
    · rename_i hc
      simp only [Bool.and_eq_true] at hc
      cases hk
      obtain ⟨as, q1⟩ := Dp.reads I _ x v (Dp.of sb d x hc.1.1 r1) rx
      obtain ⟨bs, q2⟩ := Dp.reads I _ c u (Dp.of sb (.tup ds) c (by simp only [pln]; exact hc.1.2) r2) ry
      simp only [toP] at q2
      have hl : (PyData.tuple (toPL ds)).canLay0 = true := by have := canLay_toP _ c r2; simpa only [toP] using this
      rw [← anyEq_toPL] at q
      cases neg with
      | false => exact SeqAt.in_tuple_reads q2 q1 hl (canLay_toP d x r1) (room_in r hc.2) ⟨.bl _, H, I, rfl, q⟩
      | true => exact SeqAt.notIn_tuple_reads q2 q1 hl (canLay_toP d x r1) (room_in r hc.2) ⟨.bl _, H, I, rfl, q⟩
    · cases hk
  · rename_i y
    split at hk
    · rename_i i
      cases hk
      simp only [Rep] at r1 r2
      obtain ⟨rfl, _⟩ := r1
      obtain ⟨rfl, _⟩ := r2
      cases neg with
      | false => exact op_in_str pins s σ H _ _ v u Q I rx ry ⟨i, y, rfl, rfl, q⟩
      | true => exact L2.op_notin_str pins s σ H _ _ v u Q I rx ry ⟨i, y, rfl, rfl, q⟩
    · cases hk
  · cases hk
theorem opIn (r : Rm 0 X.A) : OpR X (compareOp .In) (rD2 X.K dIn) := by
  intro pins s σ H x y v u Q I rx ry h
  obtain ⟨F, m, S, d, e, b, w, r1, r2, he, o⟩ := h
  unfold dIn at he
  cases hk : isIn d e with
  | none => rw [hk] at he; cases he
  | some k =>
    rw [hk] at he; cases he
    exact in_core (neg := false) r rfl I rx ry w.sub r1 r2 hk (o.val w (rep_bl _))
theorem opNotIn (r : Rm 0 X.A) : OpR X (compareOp .NotIn) (rD2 X.K dNotIn) := by
  intro pins s σ H x y v u Q I rx ry h
  obtain ⟨F, m, S, d, e, b, w, r1, r2, he, o⟩ := h
  unfold dNotIn at he
  cases hk : isIn d e with
  | none => rw [hk] at he; cases he
  | some k =>
    rw [hk] at he; cases he
    exact in_core (neg := true) r rfl I rx ry w.sub r1 r2 hk (o.val w (rep_bl _))
/-! ### is -/
def isD : D → D → Option Bool
  | .non, .non => some true
  | _, .non => some false
  | .bl a, .bl b => some (decide (a = b))
  | _, _ => none
def dIs (_ : Cells) (a b : D) : Option B := (isD a b).bind fun k => bB k
def dIsNot (_ : Cells) (a b : D) : Option B := (isD a b).bind fun k => bB (!k)
theorem non_iff {K : PySem.W.Frag} {F : Hp} {m : List Addr} {d : D} {x : V} (r : Rep K F m d x) : x = .non ↔ d = .non := by
  constructor
  · intro e
    subst e
    cases d with
    | non => rfl
    | bl => simp only [Rep] at r; cases r
    | int => simp only [Rep] at r; cases r
    | str => simp only [Rep] at r; exact nomatch r.1
    | tup => simp only [Rep] at r; obtain ⟨_, _, e, _⟩ := r; cases e
    | lst => simp only [Rep] at r; obtain ⟨_, _, e, _⟩ := r; cases e
    | dic => simp only [Rep] at r; obtain ⟨_, _, e, _⟩ := r; cases e
    | ins => simp only [Rep] at r; obtain ⟨_, _, _, e, _⟩ := r; cases e
    | exc => simp only [Rep] at r; obtain ⟨_, _, _, e, _⟩ := r; cases e
    | cel => simp only [Rep] at r; obtain ⟨_, _, e⟩ := r; cases e
    | scr => simp only [Rep] at r; obtain ⟨_, e, _⟩ := r; cases e
  · rintro rfl
    simpa only [Rep] using r
theorem is_shape {d e : D} {k : Bool} (h : isD d e = some k) : (e = .non ∧ (k = true ↔ d = .non)) ∨ ∃ a b, d = .bl a ∧ e = .bl b ∧ k = decide (a = b) := by
  unfold isD at h
  split at h
  · cases h; exact .inl ⟨rfl, by simp⟩
  · rename_i hd
    cases h; exact .inl ⟨rfl, by simp only [Bool.false_eq_true, false_iff]; exact hd⟩
  · cases h; exact .inr ⟨_, _, rfl, rfl, rfl⟩
  · cases h
theorem opIs (r : Rm 0 X.A) : OpR X (compareOp .Is) (rD2 X.K dIs) := by
  refine OpR.imp (op_isN.or op_isBl) fun x y H Q ⟨F, m, S, d, e, b, w, r1, r2, he, o⟩ => ?_
  unfold dIs at he
  cases hk : isD d e with
  | none => rw [hk] at he; cases he
  | some k =>
    rw [hk] at he; cases he
    have fin := o.val w (v := .bl k) (rep_bl _)
    rcases is_shape hk with ⟨rfl, z⟩ | ⟨a, b, rfl, rfl, rfl⟩
    · refine .inl ⟨by simpa only [Rep] using r2, ?_⟩
      have e1 : decide (x = .non) = k := by
        cases k with
        | true => exact decide_eq_true ((non_iff r1).mpr (z.mp rfl))
        | false => exact decide_eq_false fun q => by have := z.mpr ((non_iff r1).mp q); cases this
      rw [e1]; exact fin
    · simp only [Rep] at r1 r2
      exact .inr ⟨a, b, r1, r2, fin⟩
theorem opIsNot (r : Rm 0 X.A) : OpR X (compareOp .IsNot) (rD2 X.K dIsNot) := by
  refine OpR.imp (op_notN.or op_notBl) fun x y H Q ⟨F, m, S, d, e, b, w, r1, r2, he, o⟩ => ?_
  unfold dIsNot at he
  cases hk : isD d e with
  | none => rw [hk] at he; cases he
  | some k =>
    rw [hk] at he; cases he
    have fin := o.val w (v := .bl (!k)) (rep_bl _)
    rcases is_shape hk with ⟨rfl, z⟩ | ⟨a, b, rfl, rfl, rfl⟩
    · refine .inl ⟨by simpa only [Rep] using r2, ?_⟩
      have e1 : decide (x = .non) = k := by
        cases k with
        | true => exact decide_eq_true ((non_iff r1).mpr (z.mp rfl))
        | false => exact decide_eq_false fun q => by have := z.mpr ((non_iff r1).mp q); cases this
      rw [e1]; exact fin
    · simp only [Rep] at r1 r2
      exact .inr ⟨a, b, r1, r2, fin⟩
end
end EV

namespace EV
open PySem PySem.Spec PyProof.Rows L2

/-! ### arithmetic -/
def dInt (C : Int → Int → Bool) (g : Int → Int → Int) (_ : Cells) (a b : D) : Option B := match a, b with
  | .int i, .int j => if C i j then bI (g i j) else none
  | _, _ => none
section
variable {X : Cx}
theorem opInt {f : Value → Value → Sem Value} {C : Int → Int → Bool} {P : Int → Int → Prop} {g : Int → Int → Int} (h : OpR X f (rI P fun i j => .int (g i j))) (hC : ∀ i j, C i j = true → P i j) : OpR X f (rD2 X.K (dInt C g)) := by
  refine OpR.imp h fun x y H Q ⟨F, m, S, d, e, b, w, r1, r2, he, o⟩ => ?_
  unfold dInt at he
  split at he
  · rename_i i j
    split at he
    · rename_i hc
      cases he
      simp only [Rep] at r1 r2
      exact ⟨i, j, r1, r2, hC i j hc, o.val w (rep_int _)⟩
    · cases he
  · cases he
theorem opInt0 {f : Value → Value → Sem Value} {g : Int → Int → Int} (h : OpR X f (rI0 fun i j => .int (g i j))) : OpR X f (rD2 X.K (dInt (fun _ _ => true) g)) := by
  refine OpR.imp h fun x y H Q ⟨F, m, S, d, e, b, w, r1, r2, he, o⟩ => ?_
  unfold dInt at he
  split at he
  · rename_i i j
    cases he
    simp only [Rep] at r1 r2
    exact ⟨i, j, r1, r2, o.val w (rep_int _)⟩
  · cases he
def dCmp (g : Int → Int → Bool) (_ : Cells) (a b : D) : Option B := match a, b with
  | .int i, .int j => bB (g i j)
  | _, _ => none
theorem opCmp {f : Value → Value → Sem Value} {g : Int → Int → Bool} (h : OpR X f (rI0 fun i j => .bl (g i j))) : OpR X f (rD2 X.K (dCmp g)) := by
  refine OpR.imp h fun x y H Q ⟨F, m, S, d, e, b, w, r1, r2, he, o⟩ => ?_
  unfold dCmp at he
  split at he
  · rename_i i j
    cases he
    simp only [Rep] at r1 r2
    exact ⟨i, j, r1, r2, o.val w (rep_bl _)⟩
  · cases he
def dLt := dCmp fun i j => decide (i < j)
def dLe := dCmp fun i j => decide (i ≤ j)
def dGt := dCmp fun i j => decide (j < i)
def dGe := dCmp fun i j => decide (j ≤ i)
theorem opLt (r : Rm 0 X.A) : OpR X (compareOp .Lt) (rD2 X.K dLt) := opCmp op_lt
theorem opLe (r : Rm 0 X.A) : OpR X (compareOp .LtE) (rD2 X.K dLe) := opCmp op_le
theorem opGt (r : Rm 0 X.A) : OpR X (compareOp .Gt) (rD2 X.K dGt) := opCmp op_gt
theorem opGe (r : Rm 0 X.A) : OpR X (compareOp .GtE) (rD2 X.K dGe) := opCmp op_ge

theorem cpOk_append {x y : Str} (hx : cpOk x = true) (hy : cpOk y = true) : cpOk (x ++ y) = true := by
  unfold cpOk at *
  show (x.cps ++ y.cps).all _ = true
  rw [Array.all_append, hx, hy]; rfl
def dAdd (_ : Cells) (a b : D) : Option B := match a, b with
  | .int i, .int j => bI (i + j)
  | .str x, .str y => if x.length + y.length ≤ 16777216 then some (.str (x ++ y), false) else none
  | .lst xs, .lst ys => if xs.length + ys.length ≤ 16777216 then some (.lst (xs ++ ys), true) else none
  | .tup xs, .tup ys => if xs.length + ys.length ≤ 16777216 then some (.tup (xs ++ ys), false) else none
  | _, _ => none
theorem length_str_append (x y : Str) : (x ++ y).length = x.length + y.length := by
  show (x.cps ++ y.cps).size = _
  rw [Array.size_append]; rfl
theorem opAdd : OpR X (binaryOp .Add) (rD2 X.K dAdd) := by
  refine OpR.imp (op_add.or (op_add_str.or (op_cat.or op_catA))) fun x y H Q ⟨F, m, S, d, e, b, w, r1, r2, he, o⟩ => ?_
  unfold dAdd at he
  split at he
  · rename_i i j
    cases he
    simp only [Rep] at r1 r2
    exact .inl ⟨i, j, r1, r2, o.val w (rep_int _)⟩
  · rename_i i j
    split at he
    · rename_i hl
      cases he
      simp only [Rep] at r1 r2
      obtain ⟨rfl, h1, h2⟩ := r1
      obtain ⟨rfl, h3, h4⟩ := r2
      refine .inr (.inl ⟨i, j, rfl, rfl, by rw [line24]; exact hl, o.val w ?_⟩)
      simp only [Rep]
      exact ⟨trivial, by rw [length_str_append, line24]; exact hl, cpOk_append h2 h4⟩
    · cases he
  · rename_i xs ys
    split at he
    · rename_i hl
      cases he
      simp only [Rep] at r1 r2
      obtain ⟨p, us, rfl, h1, h2, h3⟩ := r1
      obtain ⟨q, vs, rfl, h4, h5, h6⟩ := r2
      have l1 := h3.length
      have l2 := h6.length
      have hz : (us ++ vs).length ≤ sizeLine := by rw [List.length_append, line24]; omega
      refine .inr (.inr (.inl ⟨p, q, us, vs, rfl, rfl, w.sub _ _ h1, w.sub _ _ h4, by rw [line24]; omega, fun a ha => ?_⟩))
      exact Outs.lst w o (h3.append h6) hz a ha
    · cases he
  · rename_i xs ys
    split at he
    · rename_i hl
      cases he
      simp only [Rep] at r1 r2
      obtain ⟨p, us, rfl, h1, h2, h3⟩ := r1
      obtain ⟨q, vs, rfl, h4, h5, h6⟩ := r2
      have l1 := h3.length
      have l2 := h6.length
      have hz : (us ++ vs).length ≤ sizeLine := by rw [List.length_append, line24]; omega
      refine .inr (.inr (.inr ⟨p, q, us, vs, rfl, rfl, SqT.sub w.sub h1, SqT.sub w.sub h4, by rw [line24]; omega, fun e => ?_, fun _ e => ?_, fun _ _ a ha => ?_⟩))
      · subst e
        have e' : xs = [] := List.length_eq_zero_iff.mp l1
        subst e'
        refine o.val w ?_
        simp only [Rep]
        exact ⟨q, vs, rfl, h4, h5, h6⟩
      · subst e
        have e' : ys = [] := List.length_eq_zero_iff.mp l2
        subst e'
        refine o.val w ?_
        rw [List.append_nil]
        simp only [Rep]
        exact ⟨p, us, rfl, h1, h2, h3⟩
      · exact Outs.tup w o (h3.append h6) hz a ha
    · cases he
  · cases he
def dSub := dInt (fun _ _ => true) fun i j => i - j
theorem opSub : OpR X (binaryOp .Sub) (rD2 X.K dSub) := opInt0 op_sub
def small64i (i : Int) : Bool := decide (-(2 ^ 64) < i) && decide (i < 2 ^ 64)
def mulOk (i j : Int) : Bool := small64i i || small64i j
def dMul (_ : Cells) (a b : D) : Option B := match a, b with
  | .int i, .int j => if mulOk i j then bI (i * j) else none
  | .lst xs, .int k => if decide (-(2 ^ 63) ≤ k) && decide (k < 2 ^ 63) && decide (xs.length * k.toNat ≤ 16777216) then some (.lst (List.replicate k.toNat xs).flatten, true) else none
  | _, _ => none
theorem RepL.rep {K : PySem.W.Frag} {H : Hp} {m : List Addr} {ds : List D} {vs : List V} (r : RepL K H m ds vs) : ∀ k : Nat, RepL K H m (List.replicate k ds).flatten (List.replicate k vs).flatten
  | 0 => .nil
  | k + 1 => by
    rw [List.replicate_succ, List.replicate_succ, List.flatten_cons, List.flatten_cons]
    exact r.append (RepL.rep r k)
theorem opMul : OpR X (binaryOp .Mult) (rD2 X.K dMul) := by
  refine OpR.imp (op_mul.or op_rep) fun x y H Q ⟨F, m, S, d, e, b, w, r1, r2, he, o⟩ => ?_
  unfold dMul at he
  split at he
  · rename_i i j
    split at he
    · rename_i hc
      cases he
      simp only [Rep] at r1 r2
      refine .inl ⟨i, j, r1, r2, ?_, o.val w (rep_int _)⟩
      simp only [mulOk, small64i, Bool.or_eq_true, Bool.and_eq_true, decide_eq_true_eq] at hc
      exact hc
    · cases he
  · rename_i xs k
    split at he
    · rename_i hc
      cases he
      simp only [Rep] at r1 r2
      obtain ⟨p, us, rfl, h1, h2, h3⟩ := r1
      subst r2
      simp only [Bool.and_eq_true, decide_eq_true_eq] at hc
      have l1 := h3.length
      refine .inr ⟨p, k, us, rfl, rfl, w.sub _ _ h1, hc.1.1, hc.1.2, by rw [line24, ← l1]; exact hc.2, fun a ha => ?_⟩
      refine Outs.lst w o (h3.rep _) ?_ a ha
      rw [line24, List.length_flatten, List.map_replicate, List.sum_replicate_nat, ← l1, Nat.mul_comm]
      exact hc.2
    · cases he
  · cases he
def dMod := dInt (fun _ j => decide (0 < j)) fun i j => i % j
theorem opMod : OpR X (binaryOp .Mod) (rD2 X.K dMod) := opInt op_mod fun i j h => of_decide_eq_true h
def dDiv := dInt (fun _ j => decide (0 < j) && decide (j < 1073741824)) fun i j => i / j
theorem opDiv : OpR X (binaryOp .FloorDiv) (rD2 X.K dDiv) := opInt op_fdiv fun i j h => by
  simp only [Bool.and_eq_true, decide_eq_true_eq] at h; exact h
def dXor := dInt (fun _ _ => true) fun i j => Builtin.bitXor i j
def dAndI := dInt (fun _ _ => true) fun i j => Builtin.bitAnd i j
def dOrI := dInt (fun _ _ => true) fun i j => Builtin.bitOr i j
theorem opXor : OpR X (binaryOp .BitXor) (rD2 X.K dXor) := opInt0 op_xor
theorem opAndI : OpR X (binaryOp .BitAnd) (rD2 X.K dAndI) := opInt0 op_and
theorem opOrI : OpR X (binaryOp .BitOr) (rD2 X.K dOrI) := opInt0 op_or
def shOk (i j : Int) : Bool := decide (0 ≤ j) && decide (j ≤ 1000000) && decide (i.natAbs < 2 ^ 64)
def dShl := dInt shOk fun i j => i * 2 ^ j.toNat
theorem opShl : OpR X (binaryOp .LShift) (rD2 X.K dShl) := opInt op_shl fun i j h => by
  simp only [shOk, Bool.and_eq_true, decide_eq_true_eq] at h; exact ⟨h.1.1, h.1.2, h.2⟩
def dShr := dInt (fun _ j => decide (0 ≤ j)) fun i j => i / 2 ^ j.toNat
theorem opShr : OpR X (binaryOp .RShift) (rD2 X.K dShr) := opInt op_shr fun i j h => of_decide_eq_true h
def dNeg (_ : Cells) : D → Option B
  | .int i => bI (-i)
  | _ => none
theorem unNeg : UnR X (unaryOp .USub) (rD1 X.K dNeg) := by
  intro pins s σ H x v Q I rx h
  obtain ⟨F, m, S, d, b, w, r, he, o⟩ := h
  unfold dNeg at he
  split at he
  · rename_i i
    cases he
    simp only [Rep] at r
    exact un_neg pins s σ H x v Q I rx ⟨i, r, o.val w (rep_int _)⟩
  · cases he

/-! ### built-in functions -/
theorem CallR.imp {f : Value} {r r' : List V → Hp → VK → Prop} (h : CallR X f r) (k : ∀ xs H Q, r' xs H Q → r xs H Q) : CallR X f r' := by
  intro pins s σ H xs us Q I rx q
  exact h pins s σ H xs us Q I rx (k xs H Q q)
def lenD : D → Option Nat
  | .tup ds => some ds.length
  | .lst ds => some ds.length
  | .str x => some x.length
  | .scr ns => some ns.length
  | _ => none
def bLen (S : Cells) : List D → Option B
  | [.cel i] => (S[i]?).bind fun ds => bI ds.length
  | [d] => (lenD d).bind fun n => bI n
  | _ => none
theorem RepL.one' {K : PySem.W.Frag} {F : Hp} {m : List Addr} {d : D} {xs : List V} (r : RepL K F m [d] xs) : ∃ x, xs = [x] ∧ Rep K F m d x := by
  simp only [RepL] at r
  obtain ⟨x, ys, rfl, r, rfl⟩ := r
  exact ⟨x, rfl, r⟩
theorem RepL.two' {K : PySem.W.Frag} {F : Hp} {m : List Addr} {d e : D} {xs : List V} (r : RepL K F m [d, e] xs) : ∃ x y, xs = [x, y] ∧ Rep K F m d x ∧ Rep K F m e y := by
  simp only [RepL] at r
  obtain ⟨x, ys, rfl, r, y, zs, rfl, r2, rfl⟩ := r
  exact ⟨x, y, rfl, r, r2⟩
theorem crLen (hc : X.calm = true) (rm : Rm 0 X.A) : CallR X (.builtin "len") (rDn X.K bLen) := by
  refine CallR.imp (call_len_seq.or call_len_str) fun xs H Q ⟨F, m, S, ds, b, w, rl, he, o⟩ => ?_
  unfold bLen at he
  split at he
  · rename_i i
    obtain ⟨x, rfl, r⟩ := rl.one'
    simp only [Rep] at r
    obtain ⟨a, ha, rfl⟩ := r
    cases hs : S[i]? with
    | none => rw [hs] at he; cases he
    | some ds =>
      rw [hs] at he; cases he
      obtain ⟨_, xs, h1, h2, h3⟩ := w.cel i a ds ha hs
      refine .inl ⟨a, xs, rfl, .inl (SqL.of h1), ?_⟩
      rw [← h3.length]
      exact o.val w (rep_int _)
  · rename_i d _
    obtain ⟨x, rfl, r⟩ := rl.one'
    cases d with
    | tup ds =>
      cases he
      simp only [Rep] at r
      obtain ⟨p, us, rfl, h1, h2, h3⟩ := r
      refine .inl ⟨p, us, rfl, .inr (SqT.sub w.sub h1), ?_⟩
      rw [← h3.length]
      exact o.val w (rep_int _)
    | lst ds =>
      cases he
      simp only [Rep] at r
      obtain ⟨p, us, rfl, h1, h2, h3⟩ := r
      refine .inl ⟨p, us, rfl, .inl (SqL.of (w.sub _ _ h1)), ?_⟩
      rw [← h3.length]
      exact o.val w (rep_int _)
    | str z =>
      cases he
      simp only [Rep] at r
      obtain ⟨rfl, h1, h2⟩ := r
      exact .inr ⟨z, rfl, h1, o.val w (rep_int _)⟩
    | scr ns =>
      cases he
      simp only [Rep] at r
      obtain ⟨p, rfl, h1, h2⟩ := r
      refine .inl ⟨p, _, rfl, .inl (SqL.sub w.sub h1), ?_⟩
      rw [List.length_map]
      exact o.val w (rep_int _)
    | _ => cases he
  · cases he
def bInt (_ : Cells) : List D → Option B
  | [.int i] => bI i
  | [.bl k] => bI (if k then 1 else 0)
  | _ => none
theorem crInt (hc : X.calm = true) (rm : Rm 0 X.A) : CallR X (.type "int") (rDn X.K bInt) := by
  refine CallR.imp call_int1 fun xs H Q ⟨F, m, S, ds, b, w, rl, he, o⟩ => ?_
  unfold bInt at he
  split at he
  · rename_i i
    obtain ⟨x, rfl, r⟩ := rl.one'
    cases he
    simp only [Rep] at r
    subst r
    exact .inl ⟨i, rfl, o.val w (rep_int _)⟩
  · rename_i k
    obtain ⟨x, rfl, r⟩ := rl.one'
    cases he
    simp only [Rep] at r
    subst r
    exact .inr ⟨k, rfl, o.val w (rep_int _)⟩
  · cases he
def bAbs (_ : Cells) : List D → Option B
  | [.int i] => bI (if i < 0 then -i else i)
  | _ => none
theorem crAbs (hc : X.calm = true) (rm : Rm 0 X.A) : CallR X (.builtin "abs") (rDn X.K bAbs) := by
  refine CallR.imp call_abs fun xs H Q ⟨F, m, S, ds, b, w, rl, he, o⟩ => ?_
  unfold bAbs at he
  split at he
  · rename_i i
    obtain ⟨x, rfl, r⟩ := rl.one'
    cases he
    simp only [Rep] at r
    subst r
    exact ⟨i, rfl, o.val w (rep_int _)⟩
  · cases he
def bMax2 (_ : Cells) : List D → Option B
  | [.int i, .int j] => bI (if j > i then j else i)
  | _ => none
def bMin2 (_ : Cells) : List D → Option B
  | [.int i, .int j] => bI (if j < i then j else i)
  | _ => none
theorem crMax2 (hc : X.calm = true) (rm : Rm 0 X.A) : CallR X (.builtin "max") (rDn X.K bMax2) := by
  refine CallR.imp (call_max2 hc) fun xs H Q ⟨F, m, S, ds, b, w, rl, he, o⟩ => ?_
  unfold bMax2 at he
  split at he
  · rename_i i j
    obtain ⟨x, y, rfl, r, r2⟩ := rl.two'
    cases he
    simp only [Rep] at r r2
    subst r r2
    exact ⟨i, j, rfl, o.val w (rep_int _)⟩
  · cases he
theorem crMin2 (hc : X.calm = true) (rm : Rm 0 X.A) : CallR X (.builtin "min") (rDn X.K bMin2) := by
  refine CallR.imp (call_min2 hc) fun xs H Q ⟨F, m, S, ds, b, w, rl, he, o⟩ => ?_
  unfold bMin2 at he
  split at he
  · rename_i i j
    obtain ⟨x, y, rfl, r, r2⟩ := rl.two'
    cases he
    simp only [Rep] at r r2
    subst r r2
    exact ⟨i, j, rfl, o.val w (rep_int _)⟩
  · cases he
def bList (_ : Cells) : List D → Option B
  | [.tup ds] => some (.lst ds, true)
  | [.lst ds] => some (.lst ds, true)
  | _ => none
theorem crList (hc : X.calm = true) (rm : Rm 0 X.A) : CallR X (.type "list") (rDn X.K bList) := by
  refine CallR.imp call_list_of fun xs H Q ⟨F, m, S, ds, b, w, rl, he, o⟩ => ?_
  unfold bList at he
  split at he
  · obtain ⟨x, rfl, r⟩ := rl.one'
    cases he
    simp only [Rep] at r
    obtain ⟨p, us, rfl, h1, h2, h3⟩ := r
    exact ⟨p, us, rfl, .inr (SqT.sub w.sub h1), fun a ha => Outs.lst w o h3 h2 a ha⟩
  · obtain ⟨x, rfl, r⟩ := rl.one'
    cases he
    simp only [Rep] at r
    obtain ⟨p, us, rfl, h1, h2, h3⟩ := r
    exact ⟨p, us, rfl, .inl (SqL.of (w.sub _ _ h1)), fun a ha => Outs.lst w o h3 h2 a ha⟩
  · cases he
def bTuple (_ : Cells) : List D → Option B
  | [.tup ds] => some (.tup ds, false)
  | [.lst ds] => some (.tup ds, false)
  | _ => none
theorem crTuple (hc : X.calm = true) (rm : Rm 0 X.A) : CallR X (.type "tuple") (rDn X.K bTuple) := by
  refine CallR.imp call_tuple_of fun xs H Q ⟨F, m, S, ds, b, w, rl, he, o⟩ => ?_
  unfold bTuple at he
  split at he
  · obtain ⟨x, rfl, r⟩ := rl.one'
    cases he
    have r' := r
    simp only [Rep] at r
    obtain ⟨p, us, rfl, h1, h2, h3⟩ := r
    exact ⟨p, us, rfl, .inr ⟨SqT.sub w.sub h1, o.val w r'⟩⟩
  · obtain ⟨x, rfl, r⟩ := rl.one'
    cases he
    simp only [Rep] at r
    obtain ⟨p, us, rfl, h1, h2, h3⟩ := r
    exact ⟨p, us, rfl, .inl ⟨SqL.of (w.sub _ _ h1), fun a ha => Outs.tup w o h3 h2 a ha⟩⟩
  · cases he
def blsD : List D → Option (List Bool)
  | [] => some []
  | .bl b :: ds => (blsD ds).map (b :: ·)
  | _ :: _ => none
theorem blsD_ok {K : PySem.W.Frag} {F : Hp} {m : List Addr} : ∀ {ds : List D} {bs : List Bool} {xs : List V}, blsD ds = some bs → RepL K F m ds xs → xs = bs.map V.bl
  | [], bs, xs, h, r => by simp only [blsD] at h; cases h; simp only [RepL] at r; subst r; rfl
  | d :: ds, bs, xs, h, r => by
    simp only [RepL] at r
    obtain ⟨x, ys, rfl, r1, r2⟩ := r
    cases d with
    | bl b =>
      simp only [blsD] at h
      cases e : blsD ds with
      | none => rw [e] at h; cases h
      | some cs =>
        rw [e] at h; cases h
        simp only [Rep] at r1
        subst r1
        rw [blsD_ok e r2]; rfl
    | _ => simp only [blsD] at h; cases h
def bAll (_ : Cells) : List D → Option B
  | [.lst ds] => (blsD ds).bind fun bs => bB (bs.all id)
  | _ => none
def bAny (_ : Cells) : List D → Option B
  | [.lst ds] => (blsD ds).bind fun bs => bB (bs.any id)
  | _ => none
theorem crAll (hc : X.calm = true) (rm : Rm 0 X.A) : CallR X (.builtin "all") (rDn X.K bAll) := by
  refine CallR.imp (cr_all hc) fun xs H Q ⟨F, m, S, ds, b, w, rl, he, o⟩ => ?_
  unfold bAll at he
  split at he
  · rename_i ds
    obtain ⟨x, rfl, r⟩ := rl.one'
    cases e : blsD ds with
    | none => rw [e] at he; cases he
    | some bs =>
      rw [e] at he; cases he
      simp only [Rep] at r
      obtain ⟨p, us, rfl, h1, h2, h3⟩ := r
      have e2 := blsD_ok e h3
      subst e2
      exact ⟨p, bs, rfl, SqL.of (w.sub _ _ h1), o.val w (rep_bl _)⟩
  · cases he
theorem crAny (hc : X.calm = true) (rm : Rm 0 X.A) : CallR X (.builtin "any") (rDn X.K bAny) := by
  refine CallR.imp (cr_any hc) fun xs H Q ⟨F, m, S, ds, b, w, rl, he, o⟩ => ?_
  unfold bAny at he
  split at he
  · rename_i ds
    obtain ⟨x, rfl, r⟩ := rl.one'
    cases e : blsD ds with
    | none => rw [e] at he; cases he
    | some bs =>
      rw [e] at he; cases he
      simp only [Rep] at r
      obtain ⟨p, us, rfl, h1, h2, h3⟩ := r
      have e2 := blsD_ok e h3
      subst e2
      exact ⟨p, bs, rfl, SqL.of (w.sub _ _ h1), o.val w (rep_bl _)⟩
  · cases he
end
end EV

namespace EV
open PySem PySem.Spec PyProof.Rows L2

/-! ### subscripts -/
theorem atI_rep {K : PySem.W.Frag} {F : Hp} {m : List Addr} {ds : List D} {xs : List V} {i : Int} {d : D} (r : RepL K F m ds xs) (h : atI ds i = some d) : ∃ x, atI xs i = some x ∧ Rep K F m d x := by
  unfold atI at *
  rw [← r.length]
  cases e : ixN ds.length i with
  | none => rw [e] at h; cases h
  | some j =>
    rw [e] at h
    obtain ⟨x, h1, h2⟩ := r.get h
    exact ⟨x, h1, h2⟩
def strAt (z : Str) (i : Int) : Option D := (atI z.cps.toList i).map fun c => .str ⟨#[c]⟩
def ixD (S : Cells) (a b : D) : Option D := match a, b with
  | .lst ds, .int i => atI ds i
  | .tup ds, .int i => atI ds i
  | .str z, .int i => strAt z i
  | .cel c, .int i => (S[c]?).bind fun ds => atI ds i
  | .scr ns, .int i => (atI ns i).map .int
  | _, _ => none
def dIx (S : Cells) (a b : D) : Option B := (ixD S a b).map fun d => (d, false)
theorem atI_map {α β : Type} (f : α → β) (xs : List α) (i : Int) : atI (xs.map f) i = (atI xs i).map f := by
  unfold atI
  rw [List.length_map]
  cases ixN xs.length i with
  | none => rfl
  | some j => simp
theorem atI_mem {α : Type} {xs : List α} {i : Int} {v : α} (h : atI xs i = some v) : v ∈ xs := by
  unfold atI at h
  cases e : ixN xs.length i with
  | none => rw [e] at h; cases h
  | some j => rw [e] at h; exact List.mem_of_getElem? h
theorem cpOk_one {z : Str} {c : Nat} (h : cpOk z = true) (hc : c ∈ z.cps.toList) : cpOk ⟨#[c]⟩ = true := by
  unfold cpOk at *
  rw [Array.all_eq_true_iff_forall_mem] at h
  have := h c (by simpa using hc)
  simpa using this
section
variable {X : Cx}
theorem ixAll : IxR X (rD2 X.K dIx) := by
  have base := (ix_seq (X := X))
  intro val sl pins s σ H x y v u Q I rx ry hh hsub
  obtain ⟨F, m, S, d, e, b, w, r1, r2, he, o⟩ := hh
  refine base val sl pins s σ H x y v u Q I rx ry ?_ hsub
  unfold dIx at he
  cases hi : ixD S d e with
  | none => rw [hi] at he; cases he
  | some z =>
    rw [hi] at he; cases he
    unfold ixD at hi
    split at hi
    · simp only [Rep] at r1 r2
      obtain ⟨p, xs, rfl, h1, h2, h3⟩ := r1
      subst r2
      obtain ⟨a, ha, ra⟩ := atI_rep h3 hi
      exact .inl ⟨p, xs, _, a, rfl, rfl, SqL.of (w.sub _ _ h1), ha, o.val w ra⟩
    · simp only [Rep] at r1 r2
      obtain ⟨p, xs, rfl, h1, h2, h3⟩ := r1
      subst r2
      obtain ⟨a, ha, ra⟩ := atI_rep h3 hi
      exact .inr (.inl ⟨p, xs, _, a, rfl, rfl, SqT.sub w.sub h1, ha, o.val w ra⟩)
    · rename_i z i
      simp only [Rep] at r1 r2
      obtain ⟨rfl, h1, h2⟩ := r1
      subst r2
      unfold strAt at hi
      cases hc : atI z.cps.toList i with
      | none => rw [hc] at hi; cases hi
      | some c =>
        rw [hc] at hi; cases hi
        refine .inr (.inr ⟨z, i, c, rfl, rfl, h1, hc, o.val w ?_⟩)
        simp only [Rep]
        exact ⟨trivial, by rw [line24]; show 1 ≤ _; omega, cpOk_one h2 (atI_mem hc)⟩
    · rename_i c i
      simp only [Rep] at r1 r2
      obtain ⟨a, ha, rfl⟩ := r1
      subst r2
      cases hs : S[c]? with
      | none => rw [hs] at hi; cases hi
      | some ds =>
        rw [hs] at hi
        obtain ⟨_, xs, h1, h2, h3⟩ := w.cel c a ds ha hs
        obtain ⟨q, hq, rq⟩ := atI_rep h3 hi
        exact .inl ⟨a, xs, i, q, rfl, rfl, SqL.of h1, hq, o.val w rq⟩
    · rename_i ns i
      simp only [Rep] at r1 r2
      obtain ⟨p, rfl, h1, h2⟩ := r1
      subst r2
      cases hc : atI ns i with
      | none => rw [hc] at hi; cases hi
      | some k =>
        rw [hc] at hi; cases hi
        exact .inl ⟨p, _, i, .int k, rfl, rfl, SqL.sub w.sub h1, by rw [atI_map, hc]; rfl, o.val w (rep_int _)⟩
    · cases hi
end
def notSlice : Expr → Bool
  | .Slice .. => false
  | _ => true
theorem plainIx_of {b : Expr} (h : notSlice b = true) : PlainIx b := fun o i => by
  cases b <;> first | rfl | cases h
section
variable {pg : Pg} {N : List Str} {sc : Scope}
theorem okIx {a b : Expr} {fa fb : SE} {pos : Pos} (hs : notSlice b = true) (ha : OkE pg N sc a fa) (hb : OkE pg N sc b fb) : OkE pg N sc (.Subscript a b pos) (cOp2 dIx fa fb) := fun X ca lev W C =>
  PE.imp (pe_ix ixAll (ha X ca lev W C) (hb X ca lev W C) (plainIx_of hs)) fun σ H Q h => op2_pre h

/-! ### slices -/
def cutD {α : Type} (xs : List α) (lo hi : Option Int) : List α := (xs.drop (HT.sIx xs.length 0 lo)).take (HT.sIx xs.length xs.length hi - HT.sIx xs.length 0 lo)
def dSl (d : D) (lo hi : Option Int) : Option B := match d with
  | .lst ds => some (.lst (cutD ds lo hi), true)
  | .tup ds => some (.tup (cutD ds lo hi), false)
  | .str z => some (.str (cutS z lo hi), false)
  | _ => none
abbrev SO := Ca → En → Cells → R (Option Int)
def oNone : SO := fun _ _ S => .ok none S
def oSome (f : SE) : SO := fun ca ρ S => (f ca ρ S).bind fun b S => match b.1 with
  | .int i => .ok (some i) S
  | _ => .no
def cSl (f : SE) (lo hi : SO) : SE := fun ca ρ S => (f ca ρ S).bind fun a S => (lo ca ρ S).bind fun l S => (hi ca ρ S).bind fun h S => lift (dSl a.1 l h) S
def tO (K : PySem.W.Frag) (W : WX) (f : En → Cells → R (Option Int)) : TO := fun σ H Q => ∃ ρ S F m, Wd K F H m S ∧ REnv K F m ρ σ ∧ Post K W σ F H m (f ρ S) fun b _ _ H' _ => Q b H'
def OkO (pg : Pg) (N : List Str) (sc : Scope) (e : Option Expr) (f : SO) : Prop := ∀ X ca lev W, Ctx X sc N pg ca lev W → PO X e (tO X.K W (f ca))
theorem PO.imp {X : Cx} {e : Option Expr} {t t' : TO} (h : PO X e t) (k : ∀ σ H Q, t' σ H Q → t σ H Q) : PO X e t' := ⟨fun pins s σ H Q I q => h.run pins s σ H Q I (k σ H Q q)⟩
theorem okONone : OkO pg N sc none oNone := fun X ca lev W C => PO.imp po_none fun σ H Q ⟨ρ, S, F, m, w, r, q⟩ => q F H m (Gr.refl w)
theorem okOSome {e : Expr} {f : SE} (h : OkE pg N sc e f) : OkO pg N sc (some e) (oSome f) := fun X ca lev W C => PO.imp (po_some (h X ca lev W C)) fun σ H Q ⟨ρ, S, F, m, w, r, q⟩ => by
  refine tE.ofF w r (Post.mono (Post.bind q) fun b S1 F1 H1 m1 e1 g1 q1 x rx => ?_)
  obtain ⟨d, o⟩ := b
  cases d with
  | int i => simp only [Rep] at rx; exact ⟨i, rx, q1 F1 H1 m1 (Gr.refl g1.w)⟩
  | _ => exact q1.elim
theorem cut_rep {K : PySem.W.Frag} {F : Hp} {m : List Addr} {ds : List D} {xs : List V} (r : RepL K F m ds xs) (lo hi : Option Int) : RepL K F m (cutD ds lo hi) (cutV xs lo hi) := by
  unfold cutD cutV
  rw [r.length]
  exact (r.drop _).take _
theorem cut_whole {α : Type} {xs : List α} {lo hi : Option Int} (h1 : HT.sIx xs.length 0 lo = 0) (h2 : HT.sIx xs.length xs.length hi = xs.length) : cutD xs lo hi = xs := by
  unfold cutD
  rw [h1, h2, List.drop_zero, Nat.sub_zero, List.take_length]
theorem cutD_sub {α : Type} {xs : List α} {lo hi : Option Int} {x : α} (h : x ∈ cutD xs lo hi) : x ∈ xs := List.mem_of_mem_drop (List.mem_of_mem_take h)
theorem okSl {e : Expr} {lo hi : Option Expr} {f : SE} {fl fh : SO} {p2 pos : Pos} (he : OkE pg N sc e f) (hl : OkO pg N sc lo fl) (hh : OkO pg N sc hi fh) : OkE pg N sc (.Subscript e (.Slice lo hi none p2) pos) (cSl f fl fh) := fun X ca lev W C => by
  refine PE.imp (pe_slice (sl_list.or (sl_tupA.or sl_str)) (he X ca lev W C) (hl X ca lev W C) (hh X ca lev W C)) fun σ H Q ⟨ρ, S, F, m, w, r, q⟩ => ?_
  refine tE.ofF w r (Post.mono (Post.bind q) fun b S1 F1 H1 m1 e1 g1 q1 x rx => ?_)
  refine ⟨ρ, S1, F1, m1, g1.w, r.gr g1, Post.mono (Post.bind q1) fun l S2 F2 H2 m2 e2 g2 q2 => ?_⟩
  refine ⟨ρ, S2, F2, m2, g2.w, r.gr (g1.trans g2), Post.mono (Post.bind q2) fun u S3 F3 H3 m3 e3 g3 q3 => ?_⟩
  obtain ⟨bb, e4, o⟩ := post_lift (fun p h0 => ((g1.trans g2).trans g3).fresh h0) q3
  have rx3 := rx.gr (g2.trans g3)
  have w3 := g3.w
  obtain ⟨d, own⟩ := b
  cases d with
  | lst ds =>
    cases e4
    simp only [Rep] at rx3
    obtain ⟨p, xs, rfl, h1, h2, h3⟩ := rx3
    exact .inl ⟨p, xs, rfl, SqL.of (w3.sub _ _ h1), fun a ha => Outs.lst w3 o (cut_rep h3 l u) (Nat.le_trans (cutV_length _ _ _) h2) a ha⟩
  | tup ds =>
    cases e4
    have rx4 := rx3
    simp only [Rep] at rx3
    obtain ⟨p, xs, rfl, h1, h2, h3⟩ := rx3
    refine .inr (.inl ⟨p, xs, rfl, SqT.sub w3.sub h1, fun z => ?_, fun _ a ha => Outs.tup w3 o (cut_rep h3 l u) (Nat.le_trans (cutV_length _ _ _) h2) a ha⟩)
    refine o.val w3 ?_
    rw [← h3.length] at z
    rw [cut_whole z.1 z.2]
    exact rx4
  | str z =>
    cases e4
    simp only [Rep] at rx3
    obtain ⟨rfl, h1, h2⟩ := rx3
    refine .inr (.inr ⟨z, rfl, h1, o.val w3 ?_⟩)
    simp only [Rep]
    refine ⟨trivial, Nat.le_trans (cutS_length z l u) h1, ?_⟩
    unfold cpOk at *
    rw [Array.all_eq_true_iff_forall_mem] at h2 ⊢
    intro c hc
    refine h2 c ?_
    have : c ∈ z.cps.toList := by
      have h5 : c ∈ ((z.cps.toList.drop (HT.sIx z.length 0 l)).take (HT.sIx z.length z.length u - HT.sIx z.length 0 l)).toArray := hc
      rw [List.mem_toArray] at h5
      exact List.mem_of_mem_drop (List.mem_of_mem_take h5)
    simpa using this
  | _ => cases e4

/-! ### targets -/
inductive Pt where
  | nm (i : Nat)
  | tp (ps : List Pt)
mutual
def bindP : Pt → D → En → Option En
  | .nm i, d, ρ => if i < ρ.length then some (ρ.set i (some d)) else none
  | .tp ps, d, ρ => match d with
    | .tup ds => bindPs ps ds ρ
    | _ => none
def bindPs : List Pt → List D → En → Option En
  | [], [], ρ => some ρ
  | p :: ps, d :: ds, ρ => match bindP p d ρ with
    | some ρ' => bindPs ps ds ρ'
    | none => none
  | _, _, _ => none
end
/- every slot of the pattern is one of vs -/
mutual
def ptIn (vs : List Nat) : Pt → Bool
  | .nm i => vs.contains i
  | .tp ps => ptInL vs ps
def ptInL (vs : List Nat) : List Pt → Bool
  | [] => true
  | p :: ps => ptIn vs p && ptInL vs ps
end
/-- the target of a for: what is stored -/
def gP (K : PySem.W.Frag) (p : Pt) : TG := fun v σ H Q => ∃ F m d ρ ρ', Sub F H ∧ Rep K F m d v ∧ REnv K F m ρ σ ∧ bindP p d ρ = some ρ' ∧ ∀ σ', REnv K F m ρ' σ' → (∀ vs, ptIn vs p = true → wipe σ' vs = wipe σ vs) → Q σ' H
def gPs (K : PySem.W.Frag) (ps : List Pt) : TGs := fun vs σ H Q => ∃ F m ds ρ ρ', Sub F H ∧ RepL K F m ds vs ∧ REnv K F m ρ σ ∧ bindPs ps ds ρ = some ρ' ∧ ∀ σ', REnv K F m ρ' σ' → (∀ vs, ptInL vs ps = true → wipe σ' vs = wipe σ vs) → Q σ' H
theorem wipe_get {σ : St} : ∀ {vs : List Nat} (j : Nat), (wipe σ vs)[j]? = if j ∈ vs ∧ j < σ.length then some none else σ[j]?
  | [], j => by simp [wipe]
  | v :: vs, j => by
    have ih := wipe_get (σ := σ) (vs := vs) j
    have hl : (wipe σ vs).length = σ.length := wipe_length σ vs
    unfold wipe
    by_cases hv : v = j
    · subst hv
      by_cases hlt : v < σ.length
      · rw [List.getElem?_set_self (by rw [hl]; exact hlt)]
        simp [hlt]
      · rw [List.getElem?_eq_none (by simp [hl]; omega)]
        simp [hlt]
    · rw [List.getElem?_set_ne hv, ih]
      have : ¬ j = v := fun e => hv e.symm
      simp [this]
theorem wipe_set {σ : St} {i : Nat} {a : Option V} {vs : List Nat} (h : vs.contains i = true) : wipe (σ.set i a) vs = wipe σ vs := by
  have h' : i ∈ vs := by simpa using h
  apply List.ext_getElem?
  intro j
  rw [wipe_get, wipe_get]
  simp only [List.length_set]
  by_cases hj : j ∈ vs ∧ j < σ.length
  · simp [hj]
  · rw [if_neg hj, if_neg hj]
    by_cases hij : i = j
    · subst hij
      have : ¬ i < σ.length := fun q => hj ⟨h', q⟩
      rw [List.getElem?_eq_none (by simp; omega), List.getElem?_eq_none (by omega)]
    · rw [List.getElem?_set_ne hij]
theorem REnv.set {K : PySem.W.Frag} {F : Hp} {m : List Addr} {ρ : En} {σ : St} {i : Nat} {d : D} {v : V} (r : REnv K F m ρ σ) (h : Rep K F m d v) : REnv K F m (ρ.set i (some d)) (σ.set i (some v)) := by
  refine ⟨by simp [r.1], fun j e hj => ?_⟩
  by_cases hij : i = j
  · subst hij
    by_cases hl : i < ρ.length
    · rw [List.getElem?_set_self hl] at hj
      cases hj
      exact ⟨v, List.getElem?_set_self (by rw [← r.1]; exact hl), h⟩
    · rw [List.getElem?_eq_none (by simp; omega)] at hj; cases hj
  · rw [List.getElem?_set_ne hij] at hj
    rw [List.getElem?_set_ne hij]
    exact r.2 j e hj
theorem PG.imp {X : Cx} {e : Expr} {t t' : TG} (h : PG X e t) (k : ∀ v σ H Q, t' v σ H Q → t v σ H Q) : PG X e t' := ⟨fun pins s σ H v u Q I rv q => h.run pins s σ H v u Q I rv (k v σ H Q q)⟩
theorem PGs.imp {X : Cx} {e : List Expr} {t t' : TGs} (h : PGs X e t) (k : ∀ v σ H Q, t' v σ H Q → t v σ H Q) : PGs X e t' := ⟨fun pins s σ H v u Q I rv q => h.run pins s σ H v u Q I rv (k v σ H Q q)⟩
/-- a name that may be stored -/
def StOk (X : Cx) (x : Str) (i : Nat) : Prop := X.N[i]? = some x ∧ Loc X.env.scope x ∧ (X.fn x = true ∨ X.env.scope.names.lookup x = some .local)
theorem pgNm {X : Cx} {x : Str} {i : Nat} {pos : Pos} (hN : X.N.Nodup) (h : StOk X x i) : PG X (.Name x pos) (gP X.K (.nm i)) :=
  PG.imp (pg_name hN h.1 h.2.1 h.2.2) fun v σ H Q ⟨F, m, d, ρ, ρ', sb, rd, re, hb, q⟩ => by
    simp only [bindP] at hb
    split at hb
    · cases hb
      exact q _ (re.set rd) fun vs hv => wipe_set (by simpa only [ptIn] using hv)
    · cases hb
theorem assignEach_cons {e : Expr} {es : List Expr} {env : Env} (h : noStar e = true) : assignEach (e :: es) env = (false, assign e env) :: assignEach es env := by
  cases e <;> first | rfl | cases h
theorem assignEach_all {env : Env} : ∀ {es : List Expr}, es.all noStar = true → (assignEach es env).length = es.length ∧ (assignEach es env).findIdx? (·.1) = none
  | [], _ => ⟨rfl, rfl⟩
  | e :: es, h => by
    simp only [List.all_cons, Bool.and_eq_true] at h
    obtain ⟨h1, h2⟩ := assignEach_all (env := env) h.2
    rw [assignEach_cons h.1]
    refine ⟨by simp [h1], ?_⟩
    rw [List.findIdx?_cons]
    simp [h2]
theorem pgsNil {X : Cx} : PGs X [] (gPs X.K []) := PGs.imp pgs_nil fun vs σ H Q ⟨F, m, ds, ρ, ρ', sb, rd, re, hb, q⟩ => by
  cases ds with
  | nil =>
    simp only [RepL] at rd
    simp only [bindPs] at hb
    cases hb
    exact ⟨rd, q σ re fun _ _ => rfl⟩
  | cons d ds => simp only [bindPs] at hb; cases hb
theorem pgsCons {X : Cx} {e : Expr} {es : List Expr} {p : Pt} {ps : List Pt} (hs : noStar e = true) (h1 : PG X e (gP X.K p)) (h2 : PGs X es (gPs X.K ps)) : PGs X (e :: es) (gPs X.K (p :: ps)) :=
  PGs.imp (pgs_cons h1 h2 (by rw [assignEach_cons hs]; rfl)) fun vs σ H Q ⟨F, m, ds, ρ, ρ', sb, rd, re, hb, q⟩ => by
    cases ds with
    | nil => simp only [bindPs] at hb; cases hb
    | cons d ds =>
      simp only [RepL] at rd
      obtain ⟨x, xs, rfl, r1, r2⟩ := rd
      simp only [bindPs] at hb
      cases e1 : bindP p d ρ with
      | none => rw [e1] at hb; cases hb
      | some ρ1 =>
        rw [e1] at hb
        refine ⟨x, xs, rfl, F, m, d, ρ, ρ1, sb, r1, re, e1, fun σ1 re1 w1 => ⟨F, m, ds, ρ1, ρ', sb, r2, re1, hb, fun σ2 re2 w2 => q σ2 re2 fun vs hv => ?_⟩⟩
        simp only [ptInL, Bool.and_eq_true] at hv
        rw [w2 vs hv.2, w1 vs hv.1]
mutual
theorem bindP_len : ∀ (p : Pt) (d : D) (ρ ρ' : En), bindP p d ρ = some ρ' → ρ'.length = ρ.length
  | .nm i, d, ρ, ρ', h => by
    simp only [bindP] at h
    split at h
    · cases h; simp
    · cases h
  | .tp ps, d, ρ, ρ', h => by
    simp only [bindP] at h
    split at h
    · exact bindPs_len ps _ ρ ρ' h
    · cases h
theorem bindPs_len : ∀ (ps : List Pt) (ds : List D) (ρ ρ' : En), bindPs ps ds ρ = some ρ' → ρ'.length = ρ.length
  | [], ds, ρ, ρ', h => by
    cases ds <;> simp only [bindPs] at h
    · cases h; rfl
    · cases h
  | p :: ps, ds, ρ, ρ', h => by
    cases ds with
    | nil => simp only [bindPs] at h; cases h
    | cons d ds =>
      simp only [bindPs] at h
      cases e : bindP p d ρ with
      | none => rw [e] at h; cases h
      | some ρ1 =>
        rw [e] at h
        rw [bindPs_len ps ds ρ1 ρ' h, bindP_len p d ρ ρ1 e]
theorem bindPs_count : ∀ (ps : List Pt) (ds : List D) (ρ ρ' : En), bindPs ps ds ρ = some ρ' → ds.length = ps.length
  | [], ds, ρ, ρ', h => by
    cases ds <;> simp only [bindPs] at h
    · rfl
    · cases h
  | p :: ps, ds, ρ, ρ', h => by
    cases ds with
    | nil => simp only [bindPs] at h; cases h
    | cons d ds =>
      simp only [bindPs] at h
      cases e : bindP p d ρ with
      | none => rw [e] at h; cases h
      | some ρ1 =>
        rw [e] at h
        simp [bindPs_count ps ds ρ1 ρ' h]
end
theorem pgTp {X : Cx} {es : List Expr} {ps : List Pt} {k : Nat} {pos : Pos} (hc : X.calm = true) (hs : es.all noStar = true) (hl : es.length = ps.length) (h : PGs X es (gPs X.K ps)) : PG X (.Tuple es k pos) (gP X.K (.tp ps)) := by
  obtain ⟨h1, h2⟩ := assignEach_all (env := X.env) hs
  refine PG.imp (pg_tup (n := es.length) hc h h1 h2) fun v σ H Q ⟨F, m, d, ρ, ρ', sb, rd, re, hb, q⟩ => ?_
  cases d with
  | tup ds =>
    simp only [bindP] at hb
    simp only [Rep] at rd
    obtain ⟨a, xs, rfl, hq, hz, rl⟩ := rd
    exact ⟨a, xs, rfl, SqT.sub sb hq, by rw [← rl.length, hl]; exact bindPs_count _ _ _ _ hb, F, m, ds, ρ, ρ', sb, rl, re, hb, fun σ' re' w' => q σ' re' fun vs hv => w' vs (by simpa only [ptIn] using hv)⟩
  | _ => simp only [bindP] at hb; cases hb
end
end EV

namespace EV
open PySem PySem.Spec PyProof.Rows L2

/-! ### what is walked -/
/-- a later state, by what is frozen -/
structure Lt (K : PySem.W.Frag) (F : Hp) (m : List Addr) (F' H' : Hp) (m' : List Addr) (S' : Cells) : Prop where
  w : Wd K F' H' m' S'
  up : Sub F F'
  ext : Ext m m'
theorem Gr.lt {K : PySem.W.Frag} {F H F' H' : Hp} {m m' : List Addr} {S' : Cells} (g : Gr K F H m F' H' m' S') : Lt K F m F' H' m' S' := ⟨g.w, g.up, g.ext⟩
theorem Rep.lt {K : PySem.W.Frag} {F F' H' : Hp} {m m' : List Addr} {S' : Cells} {d : D} {v : V} (g : Lt K F m F' H' m' S') (r : Rep K F m d v) : Rep K F' m' d v := r.up g.up g.ext
/-- J gives the items ds one behind another, wherever the heap has gone to -/
def IsIt (K : PySem.W.Frag) (J : It) (F : Hp) (m : List Addr) (ds : List D) : Prop := ds.length ≤ sizeLine ∧ ∀ F2 H2 m2 S2, Lt K F m F2 H2 m2 S2 →
  (∀ i, i < ds.length → J.go i H2) ∧ J.stop ds.length H2 ∧ ∀ i x H3 d, ds[i]? = some d → J.yld i H2 x H3 → ∃ F3, Gr K F2 H2 m2 F3 H3 m2 S2 ∧ Rep K F3 m2 d x
abbrev SI := Ca → En → Cells → R (List D)
def tI (K : PySem.W.Frag) (W : WX) (f : En → Cells → R (List D)) : TI := fun σ H R => ∃ ρ S F m, Wd K F H m S ∧ REnv K F m ρ σ ∧
  Post K W σ F H m (f ρ S) fun ds _ F' H' m' => ∀ J, IsIt K J F' m' ds → R J H'
def OkI (pg : Pg) (N : List Str) (sc : Scope) (tg e : Expr) (f : SI) : Prop := ∀ X ca lev W, Ctx X sc N pg ca lev W → PI X tg e (tI X.K W (f ca))
theorem PI.imp {X : Cx} {tg e : Expr} {t t' : TI} (h : PI X tg e t) (k : ∀ σ H R, t' σ H R → t σ H R) : PI X tg e t' := ⟨fun pins s σ H R I q => h.run pins s σ H R I (k σ H R q)⟩
theorem PI.or {X : Cx} {tg e : Expr} {t t' : TI} (h : PI X tg e t) (h' : PI X tg e t') : PI X tg e fun σ H R => t σ H R ∨ t' σ H R :=
  ⟨fun pins s σ H R I q => q.elim (h.run pins s σ H R I) (h'.run pins s σ H R I)⟩
section
variable {K : PySem.W.Frag} {F : Hp} {m : List Addr} {ds : List D}
theorem isIt_list {p : Addr} {xs : List V} (hF : ∀ F2 H2 m2 S2, Lt K F m F2 H2 m2 S2 → SqL K H2 p xs) (hz : xs.length ≤ sizeLine) (r : RepL K F m ds xs) : IsIt K (Itl K p) F m ds := by
  refine ⟨r.length ▸ hz, fun F2 H2 m2 S2 g => ?_⟩
  have hq := hF F2 H2 m2 S2 g
  have hl := r.length
  refine ⟨fun i hi => ⟨xs, xs[i]'(by omega), hq, by simp⟩, ⟨xs, hq, by omega⟩, fun i x H3 d hd hy => ?_⟩
  obtain ⟨e, h⟩ := hy
  subst e
  obtain ⟨y, h1, h2⟩ := r.get hd
  have := h xs hq
  rw [h1] at this; cases this
  exact ⟨F2, Gr.refl g.w, h2.lt g⟩
theorem isIt_tup {p : Addr} {xs : List V} (hF : SqT K F p xs) (hz : xs.length ≤ sizeLine) (r : RepL K F m ds xs) : IsIt K (Itt K p) F m ds := by
  refine ⟨r.length ▸ hz, fun F2 H2 m2 S2 g => ?_⟩
  have hq : SqT K H2 p xs := SqT.sub g.w.sub (SqT.sub g.up hF)
  have hl := r.length
  refine ⟨fun i hi => ⟨xs, xs[i]'(by omega), hq, by simp⟩, ⟨xs, hq, by omega⟩, fun i x H3 d hd hy => ?_⟩
  obtain ⟨e, h⟩ := hy
  subst e
  obtain ⟨y, h1, h2⟩ := r.get hd
  have := h xs hq
  rw [h1] at this; cases this
  exact ⟨F2, Gr.refl g.w, h2.lt g⟩
def chars (z : Str) : List D := z.cps.toList.map fun c => .str ⟨#[c]⟩
theorem isIt_str {z : Str} (hz : z.length ≤ sizeLine) (hc : cpOk z = true) : IsIt K (Its z) F m (chars z) := by
  have hl : (chars z).length = z.cps.size := by unfold chars; simp
  refine ⟨by rw [hl]; exact hz, fun F2 H2 m2 S2 g => ⟨fun i hi => by rw [hl] at hi; exact hi, by rw [hl]; exact Nat.le_refl _, fun i x H3 d hd hy => ?_⟩⟩
  obtain ⟨e, c, h1, h2⟩ := hy
  subst e h2
  unfold chars at hd
  rw [List.getElem?_map, Array.getElem?_toList, h1] at hd
  cases hd
  refine ⟨F2, Gr.refl g.w, ?_⟩
  simp only [Rep]
  exact ⟨trivial, by rw [line24]; show 1 ≤ _; omega, cpOk_one hc (List.mem_of_getElem? (by rw [Array.getElem?_toList]; exact h1))⟩
def rangeD (lo : Int) (n : Nat) : List D := (List.range n).map fun i => .int (lo + (i : Nat))
theorem isIt_range {lo : Int} {n : Nat} (hn : n ≤ sizeLine) : IsIt K (Itr lo n) F m (rangeD lo n) := by
  have hl : (rangeD lo n).length = n := by unfold rangeD; simp
  refine ⟨by rw [hl]; exact hn, fun F2 H2 m2 S2 g => ⟨fun i hi => by rw [hl] at hi; exact hi, by rw [hl]; exact Nat.le_refl _, fun i x H3 d hd hy => ?_⟩⟩
  obtain ⟨e, h⟩ := hy
  subst e h
  unfold rangeD at hd
  rw [List.getElem?_map] at hd
  have hi : i < n := by
    have := (List.getElem?_eq_some_iff.mp (show (rangeD lo n)[i]? = some d by unfold rangeD; rw [List.getElem?_map]; exact hd)).1
    rwa [hl] at this
  rw [List.getElem?_range hi] at hd
  cases hd
  exact ⟨F2, Gr.refl g.w, rep_int _⟩
theorem rep_pair {F2 H2 : Hp} {m2 : List Addr} {S2 : Cells} {T : Addr} {x y : V} {d e : D} (w : Wd K F2 H2 m2 S2) (hT : H2 T = none) (r1 : Rep K F2 m2 d x) (r2 : Rep K F2 m2 e y) :
    ∃ F3, Gr K F2 H2 m2 F3 (upd H2 T (.tup [x, y])) m2 S2 ∧ Rep K F3 m2 (.tup [d, e]) (.ref T) := by
  refine ⟨upd F2 T (.tup [x, y]), Gr.layF w hT, ?_⟩
  simp only [Rep]
  have s := sub_upd (F := F2) (o := .tup [x, y]) (w.newF hT)
  exact ⟨T, _, rfl, SqT.of upd_same, by rw [line24]; show 2 ≤ _; omega, .cons (r1.up s Ext.refl) (.cons (r2.up s Ext.refl) .nil)⟩
def enumD (ds : List D) : List D := (List.range ds.length).map fun i => .tup [.int ((i : Nat) : Int), ds.getD i .non]
theorem enumD_get {i : Nat} {e : D} (h : (enumD ds)[i]? = some e) : ∃ d, ds[i]? = some d ∧ e = .tup [.int (i : Nat), d] := by
  unfold enumD at h
  rw [List.getElem?_map] at h
  by_cases hi : i < ds.length
  · rw [List.getElem?_range hi] at h
    cases h
    exact ⟨ds[i], by simp, by simp [List.getD_eq_getElem?_getD, hi]⟩
  · rw [List.getElem?_eq_none (by simp; omega)] at h; cases h
theorem isIt_enum {p : Addr} {xs : List V} (hF : ∀ F2 H2 m2 S2, Lt K F m F2 H2 m2 S2 → SqL K H2 p xs) (hz : xs.length ≤ sizeLine) (r : RepL K F m ds xs) : IsIt K (Ite K p) F m (enumD ds) := by
  have hle : (enumD ds).length = ds.length := by unfold enumD; simp
  refine ⟨by rw [hle, r.length]; exact hz, fun F2 H2 m2 S2 g => ?_⟩
  have hq := hF F2 H2 m2 S2 g
  have hl := r.length
  refine ⟨fun i hi => ⟨xs, xs[i]'(by omega), hq, by simp⟩, ⟨xs, hq, by omega⟩, fun i x H3 d hd hy => ?_⟩
  obtain ⟨T, y, rfl, hT, rfl, h⟩ := hy
  obtain ⟨d', hd', rfl⟩ := enumD_get hd
  obtain ⟨z, h1, h2⟩ := r.get hd'
  have := h xs hq
  rw [h1] at this; cases this
  exact rep_pair g.w hT (rep_int _) (h2.lt g)
def zipD (ds es : List D) : List D := (ds.zip es).map fun p => .tup [p.1, p.2]
theorem zipD_get {es : List D} {i : Nat} {e : D} (h : (zipD ds es)[i]? = some e) : ∃ a b, ds[i]? = some a ∧ es[i]? = some b ∧ e = .tup [a, b] := by
  unfold zipD at h
  rw [List.getElem?_map] at h
  cases q : (ds.zip es)[i]? with
  | none => rw [q] at h; cases h
  | some p =>
    rw [q] at h
    cases h
    obtain ⟨h1, h2⟩ := List.getElem?_zip_eq_some.mp q
    exact ⟨_, _, h1, h2, rfl⟩
theorem isIt_zipL {p q : Addr} {xs ys : List V} {es : List D} (hF : ∀ F2 H2 m2 S2, Lt K F m F2 H2 m2 S2 → SqL K H2 p xs ∧ SqL K H2 q ys) (hz : xs.length ≤ sizeLine) (r : RepL K F m ds xs) (r2 : RepL K F m es ys) : IsIt K (Itz K p q) F m (zipD ds es) := by
  have l1 := r.length
  have l2 := r2.length
  have hle : (zipD ds es).length = min ds.length es.length := by unfold zipD; simp
  refine ⟨by rw [hle]; omega, fun F2 H2 m2 S2 g => ?_⟩
  obtain ⟨hp, hq⟩ := hF F2 H2 m2 S2 g
  refine ⟨fun i hi => ⟨xs, ys, xs[i]'(by omega), ys[i]'(by omega), hp, hq, by simp, by simp⟩, ⟨xs, ys, hp, hq, by omega⟩, fun i x H3 d hd hy => ?_⟩
  obtain ⟨T, x', y', rfl, hT, rfl, h, h'⟩ := hy
  obtain ⟨a, b, ha, hb, rfl⟩ := zipD_get hd
  obtain ⟨z, z1, z2⟩ := r.get ha
  obtain ⟨u, u1, u2⟩ := r2.get hb
  have e1 := h xs hp
  rw [z1] at e1; cases e1
  have e2 := h' ys hq
  rw [u1] at e2; cases e2
  exact rep_pair g.w hT (z2.lt g) (u2.lt g)
theorem isIt_zipT {p q : Addr} {xs ys : List V} {es : List D} (hp : SqT K F p xs) (hq : SqT K F q ys) (hz : xs.length ≤ sizeLine) (r : RepL K F m ds xs) (r2 : RepL K F m es ys) : IsIt K (RZ.ItzT K p q) F m (zipD ds es) := by
  have l1 := r.length
  have l2 := r2.length
  have hle : (zipD ds es).length = min ds.length es.length := by unfold zipD; simp
  refine ⟨by rw [hle]; omega, fun F2 H2 m2 S2 g => ?_⟩
  have hp := SqT.sub g.w.sub (SqT.sub g.up hp)
  have hq := SqT.sub g.w.sub (SqT.sub g.up hq)
  refine ⟨fun i hi => ⟨xs, ys, xs[i]'(by omega), ys[i]'(by omega), hp, hq, by simp, by simp⟩, ⟨xs, ys, hp, hq, by omega⟩, fun i x H3 d hd hy => ?_⟩
  obtain ⟨T, x', y', rfl, hT, rfl, h, h'⟩ := hy
  obtain ⟨a, b, ha, hb, rfl⟩ := zipD_get hd
  obtain ⟨z, z1, z2⟩ := r.get ha
  obtain ⟨u, u1, u2⟩ := r2.get hb
  have e1 := h xs hp
  rw [z1] at e1; cases e1
  have e2 := h' ys hq
  rw [u1] at e2; cases e2
  exact rep_pair g.w hT (z2.lt g) (u2.lt g)
end

/-! ### the forms -/
def itemsD : D → Option (List D)
  | .lst ds => some ds
  | .tup ds => some ds
  | .str z => some (chars z)
  | _ => none
def iVal (f : SE) : SI := fun ca ρ S => (f ca ρ S).bind fun b S => match itemsD b.1 with
  | some ds => .ok ds S
  | none => .no
def rngOk (j : Int) : Bool := decide (-(2 ^ 62) ≤ j) && decide (j < 2 ^ 62)
def iRng1 (f : SE) : SI := fun ca ρ S => (f ca ρ S).bind fun b S => match b.1 with
  | .int j => if rngOk j && decide (j.toNat ≤ 16777216) then .ok (rangeD 0 j.toNat) S else .no
  | _ => .no
def iRng2 (f g : SE) : SI := fun ca ρ S => (f ca ρ S).bind fun a S => (g ca ρ S).bind fun b S => match a.1, b.1 with
  | .int i, .int j => if rngOk i && rngOk j && decide ((j - i).toNat ≤ 16777216) then .ok (rangeD i (j - i).toNat) S else .no
  | _, _ => .no
def iEnu (f : SE) : SI := fun ca ρ S => (f ca ρ S).bind fun b S => match b.1 with
  | .lst ds => .ok (enumD ds) S
  | _ => .no
def iZip (f g : SE) : SI := fun ca ρ S => (f ca ρ S).bind fun a S => (g ca ρ S).bind fun b S => match a.1, b.1 with
  | .lst ds, .lst es => .ok (zipD ds es) S
  | .tup ds, .tup es => .ok (zipD ds es) S
  | _, _ => .no
theorem lst_stays {K : PySem.W.Frag} {F : Hp} {m : List Addr} {p : Addr} {xs : List V} (h : F p = some (.lst xs)) : ∀ F2 H2 m2 S2, Lt K F m F2 H2 m2 S2 → SqL K H2 p xs := fun F2 H2 m2 S2 g => SqL.of (g.w.sub _ _ (g.up _ _ h))
section
variable {pg : Pg} {N : List Str} {sc : Scope}
theorem okIVal {tg e : Expr} {f : SE} (h : OkE pg N sc e f) : OkI pg N sc tg e (iVal f) := fun X ca lev W C => by
  have P := h X ca lev W C
  refine PI.imp (PI.or (pi_list P) (PI.or (pi_tup P) (pi_str P))) fun σ H R ⟨ρ, S, F, m, w, r, q⟩ => ?_
  have q1 := Post.bind q
  cases e1 : f ca ρ S with
  | no => rw [e1] at q1; exact q1.elim
  | exn c d S1 =>
    rw [e1] at q1
    refine .inl (tE.ofF w r ?_)
    rw [e1]; exact q1
  | ok b S1 =>
    rw [e1] at q1
    obtain ⟨d, own⟩ := b
    cases d with
    | lst ds =>
      refine .inl (tE.ofF w r ?_)
      rw [e1]
      intro F1 H1 m1 g1 v rv
      simp only [Rep] at rv
      obtain ⟨p, xs, rfl, h1, h2, h3⟩ := rv
      exact ⟨p, rfl, ⟨xs, SqL.of (g1.w.sub _ _ h1)⟩, q1 F1 H1 m1 g1 F1 H1 m1 (Gr.refl g1.w) _ (isIt_list (lst_stays h1) h2 h3)⟩
    | tup ds =>
      refine .inr (.inl (tE.ofF w r ?_))
      rw [e1]
      intro F1 H1 m1 g1 v rv
      simp only [Rep] at rv
      obtain ⟨p, xs, rfl, h1, h2, h3⟩ := rv
      exact ⟨p, rfl, ⟨xs, SqT.sub g1.w.sub h1⟩, q1 F1 H1 m1 g1 F1 H1 m1 (Gr.refl g1.w) _ (isIt_tup h1 h2 h3)⟩
    | str z =>
      refine .inr (.inr (tE.ofF w r ?_))
      rw [e1]
      intro F1 H1 m1 g1 v rv
      simp only [Rep] at rv
      obtain ⟨rfl, h1, h2⟩ := rv
      exact ⟨z, rfl, q1 F1 H1 m1 g1 F1 H1 m1 (Gr.refl g1.w) _ (isIt_str h1 h2)⟩
    | _ =>
      unfold iVal at q
      rw [e1] at q
      exact q.elim
end
end EV

namespace EV
open PySem PySem.Spec PyProof.Rows L2
section
variable {pg : Pg} {N : List Str} {sc : Scope}
theorem okIRng1 {tg a : Expr} {p pos : Pos} {f : SE} (hg : glB sc "range" = true) (hb : ("range" : Str) ∈ pg.blts) (hs : noStar a = true) (h : OkE pg N sc a f) : OkI pg N sc tg (.Call (.Name "range" p) [a] [] pos) (iRng1 f) := fun X ca lev W C => by
  refine PI.imp (pi_range1 (C.gl hg) (C.lib.blt _ hb) (okCons hs h okNil X ca lev W C) (starEach_cons hs)) fun σ H R ⟨ρ, S, F, m, w, r, q⟩ => ?_
  refine ⟨ρ, S, F, m, w, r, ?_⟩
  have q1 := Post.bind q
  unfold aCons
  cases e1 : f ca ρ S with
  | no => rw [e1] at q1; exact q1
  | exn c d S1 => rw [e1] at q1; exact q1
  | ok b S1 =>
    rw [e1] at q1
    intro F1 H1 m1 g1 vs rv
    obtain ⟨x, rfl, rx⟩ := rv.one'
    have q2 := q1 F1 H1 m1 g1
    obtain ⟨d, own⟩ := b
    cases d with
    | int j =>
      simp only [Rep] at rx
      subst rx
      dsimp only at q2
      split at q2
      · rename_i hc
        simp only [rngOk, Bool.and_eq_true, decide_eq_true_eq] at hc
        exact ⟨j, rfl, hc.1.1, hc.1.2, q2 F1 H1 m1 (Gr.refl g1.w) _ (isIt_range (by rw [line24]; exact hc.2))⟩
      · exact q2.elim
    | _ => exact q2.elim
theorem okIRng2 {tg a b : Expr} {p pos : Pos} {f g : SE} (hg : glB sc "range" = true) (hb : ("range" : Str) ∈ pg.blts) (hs : noStar a = true) (hs2 : noStar b = true) (h : OkE pg N sc a f) (h2 : OkE pg N sc b g) : OkI pg N sc tg (.Call (.Name "range" p) [a, b] [] pos) (iRng2 f g) := fun X ca lev W C => by
  refine PI.imp (pi_range2 (C.gl hg) (C.lib.blt _ hb) (okCons hs h (okCons hs2 h2 okNil) X ca lev W C) (by rw [starEach_cons hs, starEach_cons hs2]; rfl) (starEach_cons hs2)) fun σ H R ⟨ρ, S, F, m, w, r, q⟩ => ?_
  refine ⟨ρ, S, F, m, w, r, ?_⟩
  have q1 := Post.bind q
  show Post _ _ _ _ _ _ ((f ca ρ S).bind fun b S => ((aCons g aNil ca ρ S)).bind fun ds S => .ok (b.1 :: ds) S) _
  cases e1 : f ca ρ S with
  | no => rw [e1] at q1; exact q1
  | exn c d S1 => rw [e1] at q1; exact q1
  | ok b S1 =>
    unfold iRng2 at q
    rw [e1] at q
    have q2 : Post X.K W σ F H m ((g ca ρ S1).bind fun b2 S => match b.1, b2.1 with
      | .int i, .int j => if rngOk i && rngOk j && decide ((j - i).toNat ≤ 16777216) then .ok (rangeD i (j - i).toNat) S else .no
      | _, _ => .no) _ := q
    show Post _ _ _ _ _ _ (((g ca ρ S1).bind fun c S => ((aNil ca ρ S)).bind fun ds S => .ok (c.1 :: ds) S).bind fun ds S => .ok (b.1 :: ds) S) _
    have q3 := Post.bind q2
    cases e2 : g ca ρ S1 with
    | no => rw [e2] at q3; exact q3
    | exn c d S2 => rw [e2] at q3; exact q3
    | ok c S2 =>
      rw [e2] at q3
      intro F1 H1 m1 g1 vs rv
      obtain ⟨x, y, rfl, rx, ry⟩ := rv.two'
      have q4 := q3 F1 H1 m1 g1
      obtain ⟨d, o1⟩ := b
      obtain ⟨e, o2⟩ := c
      cases d with
      | int i =>
        cases e with
        | int j =>
          simp only [Rep] at rx ry
          subst rx ry
          dsimp only at q4
          split at q4
          · rename_i hc
            simp only [rngOk, Bool.and_eq_true, decide_eq_true_eq] at hc
            exact ⟨i, j, rfl, ⟨hc.1.1.1, hc.1.1.2, hc.1.2.1, hc.1.2.2⟩, q4 F1 H1 m1 (Gr.refl g1.w) _ (isIt_range (by rw [line24]; exact hc.2))⟩
          · exact q4.elim
        | _ => exact q4.elim
      | _ => exact q4.elim
theorem okIEnu {elts : List Expr} {kk : Nat} {tpos : Pos} {a : Expr} {p pos : Pos} {f : SE} (hg : glB sc "enumerate" = true) (hb : ("enumerate" : Str) ∈ pg.blts) (hs : noStar a = true) (h : OkE pg N sc a f) :
    OkI pg N sc (.Tuple elts kk tpos) (.Call (.Name "enumerate" p) [a] [] pos) (iEnu f) := fun X ca lev W C => by
  refine PI.imp (pi_enum (C.gl hg) (C.lib.blt _ hb) (okCons hs h okNil X ca lev W C) (starEach_cons hs)) fun σ H R ⟨ρ, S, F, m, w, r, q⟩ => ?_
  refine ⟨ρ, S, F, m, w, r, ?_⟩
  have q1 := Post.bind q
  unfold aCons
  cases e1 : f ca ρ S with
  | no => rw [e1] at q1; exact q1
  | exn c d S1 => rw [e1] at q1; exact q1
  | ok b S1 =>
    rw [e1] at q1
    intro F1 H1 m1 g1 vs rv
    obtain ⟨x, rfl, rx⟩ := rv.one'
    have q2 := q1 F1 H1 m1 g1
    obtain ⟨d, own⟩ := b
    cases d with
    | lst ds =>
      simp only [Rep] at rx
      obtain ⟨p, xs, rfl, h1, h2, h3⟩ := rx
      exact ⟨p, xs, rfl, SqL.of (g1.w.sub _ _ h1), q2 F1 H1 m1 (Gr.refl g1.w) _ (isIt_enum (lst_stays h1) h2 h3)⟩
    | _ => exact q2.elim

/-! ### comprehensions -/
def R.noX {α : Type} : R α → R α
  | .exn _ _ _ => .no
  | r => r
/-- the turns of a comprehension: acc what is made so far -/
def compL (bnd : D → Option En) (t : En → Cells → R Bool) (e : En → Cells → R B) : List D → List D → Cells → R (List D)
  | [], acc, S => .ok acc S
  | d :: ds, acc, S => match bnd d with
    | none => .no
    | some ρ => (t ρ S).noX.bind fun b S => match b with
      | true => (e ρ S).noX.bind fun v S => compL bnd t e ds (acc ++ [v.1]) S
      | false => compL bnd t e ds acc S
def wipeE (ρ : En) : List Nat → En
  | [] => ρ
  | v :: vs => (wipeE ρ vs).set v none
def cComp (it : SI) (vs : List Nat) (p : Pt) (t : ST) (e : SE) : SE := fun ca ρ S => (it ca ρ S).bind fun ds S =>
  (compL (fun d => bindP p d (wipeE ρ vs)) (t ca) (e ca) ds [] S).bind fun ds S => .ok (.lst ds, true) S
def tYesT : ST := fun _ _ S => .ok true S
def OkTs (pg : Pg) (N : List Str) (sc : Scope) (es : List Expr) (f : ST) : Prop := ∀ X ca lev W, Ctx X sc N pg ca lev W → PTs X es (tT X.K W (f ca))
theorem PTs.imp {X : Cx} {e : List Expr} {t t' : TT} (h : PTs X e t) (k : ∀ σ H Q, t' σ H Q → t σ H Q) : PTs X e t' := ⟨fun pins s σ H Q I q => h.run pins s σ H Q I (k σ H Q q)⟩
theorem okTsNil : OkTs pg N sc [] tYesT := fun X ca lev W C => PTs.imp pts_nil fun σ H Q ⟨ρ, S, F, m, w, r, q⟩ => q F H m (Gr.refl w)
theorem okTsOne {c : Expr} {t : ST} (h : OkT pg N sc c t) : OkTs pg N sc [c] t := fun X ca lev W C => pts_one (h X ca lev W C)
theorem wipe_len (σ : St) (ρ : En) (h : ρ.length = σ.length) : ∀ vs : List Nat, (wipeE ρ vs).length = (wipe σ vs).length
  | [] => h
  | v :: vs => by unfold wipeE wipe; simp [wipe_len σ ρ h vs]
theorem REnv.wipe {K : PySem.W.Frag} {F : Hp} {m : List Addr} {ρ : En} {σ : St} (r : REnv K F m ρ σ) : ∀ vs : List Nat, REnv K F m (wipeE ρ vs) (wipe σ vs)
  | [] => r
  | v :: vs => by
    have ih := REnv.wipe r vs
    refine ⟨wipe_len σ ρ r.1 (v :: vs), fun i d e => ?_⟩
    unfold wipeE at e
    unfold L2.wipe
    by_cases hi : v = i
    · subst hi
      by_cases hl : v < (wipeE ρ vs).length
      · rw [List.getElem?_set_self hl] at e; cases e
      · rw [List.getElem?_eq_none (by simp; omega)] at e; cases e
    · rw [List.getElem?_set_ne hi] at e
      rw [List.getElem?_set_ne hi]
      exact ih.2 i d e
/-! ### targets by the text -/
def tgt (ok : Str → Option Nat) : Nat → Expr → Option Pt
  | 0, _ => none
  | _ + 1, .Name x _ => (ok x).map .nm
  | n + 1, .Tuple es _ _ => if es.all noStar then (es.mapM (tgt ok n)).map .tp else none
  | _, _ => none
theorem tgt_ok {X : Cx} {ok : Str → Option Nat} (hN : X.N.Nodup) (hc : X.calm = true) (h : ∀ x i, ok x = some i → StOk X x i) : ∀ (n : Nat) (e : Expr) (p : Pt), tgt ok n e = some p → PG X e (gP X.K p)
  | 0, e, p, q => by cases q
  | n + 1, e, p, q => by
    unfold tgt at q
    split at q
    · cases q
    · rename_i n' x pos hn
      cases hn
      cases e1 : ok x with
      | none => rw [e1] at q; cases q
      | some i => rw [e1] at q; cases q; exact pgNm hN (h x i e1)
    · rename_i n' es k pos hn
      cases hn
      split at q
      · rename_i hs
        cases e1 : es.mapM (tgt ok n) with
        | none => rw [e1] at q; cases q
        | some ps =>
          rw [e1] at q; cases q
          have key : ∀ (es : List Expr) (ps : List Pt), es.all noStar = true → es.mapM (tgt ok n) = some ps → es.length = ps.length ∧ PGs X es (gPs X.K ps) := by
            intro es
            induction es with
            | nil => intro ps _ e; cases e; exact ⟨rfl, pgsNil⟩
            | cons e es ih =>
              intro ps hs e1
              simp only [List.all_cons, Bool.and_eq_true] at hs
              rw [List.mapM_cons] at e1
              cases e2 : tgt ok n e with
              | none => rw [e2] at e1; cases e1
              | some p =>
                rw [e2] at e1
                cases e3 : es.mapM (tgt ok n) with
                | none => rw [e3] at e1; cases e1
                | some qs =>
                  rw [e3] at e1; cases e1
                  obtain ⟨l, g⟩ := ih qs hs.2 e3
                  exact ⟨by simp [l], pgsCons hs.1 (tgt_ok hN hc h n e p e2) g⟩
          obtain ⟨l, g⟩ := key es ps hs e1
          exact pgTp hc hs l g
      · cases q
    · cases q
def ownOk (N : List Str) (scope : Scope) (x : Str) : Option Nat := match scope.names.lookup x with
  | some .local => slot? N x
  | some .cell => slot? N x
  | _ => none
theorem relS_keep {scope sc : Scope} {x : Str} {k : NameKind} (hk : k ≠ .free) (h : scope.names.lookup x = some k) : (relS scope sc).names.lookup x = some k := lookup_relS_keep hk h
/-- the context of a comprehension's block -/
theorem Ctx.blk {X : Cx} {ca : Ca} {lev : Nat} {W : WX} (C : Ctx X sc N pg ca lev W) (s : Shared) (H : Hp) (scope : Scope) (cl : List (Str × Addr)) (A : Addr) (fp : List Addr) :
    Ctx (X.blk s H scope (compEnvC scope cl A X.env) fp) (relS scope sc) N pg ca lev (fun _ _ _ _ => False) where
  sc := by rw [← C.sc]; rfl
  names := C.names
  nd := C.nd
  calm := C.calm
  room := C.room
  lib := C.lib
  tk := fun u s' ⟨_, _, _, _, _, _, _, _, _, _, _, _, _, _, _, _, z⟩ => z.elim
theorem own_st {X : Cx} {ca : Ca} {lev : Nat} {W : WX} (C : Ctx X sc N pg ca lev W) {s : Shared} {H : Hp} {scope : Scope} {cl : List (Str × Addr)} {A : Addr} {fp : List Addr} {x : Str} {i : Nat} (h : ownOk N scope x = some i) :
    StOk (X.blk s H scope (compEnvC scope cl A X.env) fp) x i := by
  have C' := C.blk s H scope cl A fp
  unfold ownOk at h
  split at h
  · rename_i e
    have e2 := relS_keep (sc := sc) (k := .local) (by decide) e
    exact ⟨by rw [C'.names]; exact slot_ok h, .inl (by rw [C'.sc]; exact e2), .inr (by rw [C'.sc]; exact e2)⟩
  · rename_i e
    have e2 := relS_keep (sc := sc) (k := .cell) (by decide) e
    exact ⟨by rw [C'.names]; exact slot_ok h, .inr (by rw [C'.sc]; exact e2), .inl (by show (scope.names.lookup x == some .cell) = true; rw [e]; rfl)⟩
  · cases h
end
end EV

namespace EV
open PySem PySem.Spec PyProof.Rows L2
section
variable {K : PySem.W.Frag} {F H F1 H1 F2 H2 : Hp} {m m1 m2 : List Addr} {S S1 S2 : Cells}
/-- one's own object changes -/
theorem Gr.own {a : Addr} {o : HO} (g : Gr K F1 H1 m1 F2 H2 m2 S2) (h1 : H1 a = none) (h2 : F2 a = none) (h3 : a ∉ m2) : Gr K F1 H1 m1 F2 (upd H2 a o) m2 S2 :=
  ⟨⟨fun b u e => by
      have hb : b ≠ a := fun z => by rw [z, h2] at e; cases e
      rw [upd_ne hb]; exact g.w.sub b u e, g.w.len, g.w.nd, fun i b ds q1 q2 => by
      obtain ⟨e1, xs, e2, e3⟩ := g.w.cel i b ds q1 q2
      have hb : b ≠ a := fun z => h3 (z ▸ List.mem_of_getElem? q1)
      exact ⟨e1, xs, by rw [upd_ne hb]; exact e2, e3⟩, g.w.im⟩, g.up, g.ext, fun b u e1 e2 e3 => by
    obtain ⟨q1, q2, q3⟩ := g.frm b u e1 e2 e3
    exact ⟨by rw [upd_ne (ne_of_none e1 h1)]; exact q1, q2, q3⟩⟩
theorem wipe_wipe {σ : St} {vs : List Nat} : wipe (wipe σ vs) vs = wipe σ vs := by
  apply List.ext_getElem?
  intro j
  rw [wipe_get, wipe_get, wipe_length]
  by_cases hj : j ∈ vs ∧ j < σ.length
  · simp [hj]
  · rw [if_neg hj, if_neg hj]
theorem noX_ok {α β : Type} {r : R α} {k : α → Cells → R β} {W : WX} {σ : St} {out : β → Cells → Hp → Hp → List Addr → Prop} (h : Post K W σ F H m (r.noX.bind k) out) : ∃ a S', r = .ok a S' ∧ Post K W σ F H m (k a S') out := by
  cases r with
  | ok a S' => exact ⟨a, S', rfl, h⟩
  | exn c d S' => exact h.elim
  | no => exact h.elim
/-- the turns of a comprehension -/
theorem comp_core {W : WX} {σ : St} {ρ : En} {ca : Ca} {J : It} {ds : List D} {vs : List Nat} {p : Pt} {t : ST} {e : SE} {Q : VK} {D0 : Addr} (w1 : Wd K F1 H1 m1 S1) (it : IsIt K J F1 m1 ds) (re : REnv K F1 m1 ρ σ) (hp : ptIn vs p = true) (hD : H1 D0 = none)
    (h : Post K W σ F1 H1 m1 (compL (fun d => bindP p d (wipeE ρ vs)) (t ca) (e ca) ds [] S1) fun res _ F' H' m' => ∀ xs, H' D0 = some (.lst xs) → F' D0 = none → D0 ∉ m' → xs.length ≤ sizeLine → RepL K F' m' res xs → Q (.ref D0) H') :
    ∃ Wi : Nat → Nat → Hp → Prop, (∃ k, Wi 0 k (upd H1 D0 (.lst []))) ∧ ∀ i k H, Wi i k H →
      (J.stop i H ∧ Q (.ref D0) H) ∨ (J.go i H ∧ ∃ Nx : Hp → Prop, (∀ H', Nx H' → ∃ k', k' < k ∧ Wi (i + 1) k' H') ∧ ∀ x H', J.yld i H x H' → gP K p x (wipe σ vs) H' fun σ2 H2 => wipe σ2 vs = wipe σ vs ∧
        tT K (fun _ _ _ _ => False) (t ca) σ2 H2 fun b H3 => if b = true then tE K (fun _ _ _ _ => False) (e ca) σ2 H3 fun y H4 => ∃ acc, H4 D0 = some (.lst acc) ∧ acc.length < sizeLine ∧ Nx (upd H4 D0 (.lst (acc ++ [y]))) else Nx H3) := by
  obtain ⟨hlen, it⟩ := it
  refine ⟨fun i k H => k = ds.length - i ∧ i ≤ ds.length ∧ ∃ F2 m2 S2 accD acc, Gr K F1 H1 m1 F2 H m2 S2 ∧ H D0 = some (.lst acc) ∧ F2 D0 = none ∧ D0 ∉ m2 ∧ RepL K F2 m2 accD acc ∧ accD.length ≤ i ∧
      Post K W σ F1 H1 m1 (compL (fun d => bindP p d (wipeE ρ vs)) (t ca) (e ca) (ds.drop i) accD S2) fun res _ F' H' m' => ∀ xs, H' D0 = some (.lst xs) → F' D0 = none → D0 ∉ m' → xs.length ≤ sizeLine → RepL K F' m' res xs → Q (.ref D0) H',
    ⟨ds.length, rfl, Nat.zero_le _, F1, m1, S1, [], [], Gr.lay w1 hD, upd_same, w1.newF hD, w1.newNot hD, .nil, Nat.le_refl _, h⟩, ?_⟩
  rintro i k H ⟨rfl, hi, F2, m2, S2, accD, acc, g, hH, hF, hm, ra, hl, P⟩
  obtain ⟨i1, i2, i3⟩ := it F2 H m2 S2 g.lt
  have hal := ra.length
  by_cases hlt : i < ds.length
  · refine .inr ⟨i1 i hlt, _, fun H' z => ⟨ds.length - (i + 1), by omega, z⟩, fun x H' hy => ?_⟩
    have ed : ds.drop i = ds[i] :: ds.drop (i + 1) := List.drop_eq_getElem_cons hlt
    rw [ed] at P
    simp only [compL] at P
    obtain ⟨F3, g3, r3⟩ := i3 i x H' ds[i] (by simp) hy
    obtain ⟨hH3, hF3, hm3⟩ := g3.frm D0 _ hH hF hm
    cases eb : bindP p ds[i] (wipeE ρ vs) with
    | none => rw [eb] at P; exact P.elim
    | some ρ' =>
      rw [eb] at P
      obtain ⟨b, S3, et, P2⟩ := noX_ok P
      have re3 : REnv K F3 m2 (wipeE ρ vs) (wipe σ vs) := ((re.gr g).gr g3).wipe vs
      refine ⟨F3, m2, ds[i], _, ρ', g3.w.sub, r3, re3, eb, fun σ2 re2 w2 => ⟨by rw [w2 vs hp, wipe_wipe], ρ', S2, F3, m2, g3.w, re2, ?_⟩⟩
      rw [et]
      intro F4 H4 m4 g4
      obtain ⟨hH4, hF4, hm4⟩ := g4.frm D0 _ hH3 hF3 hm3
      have G4 := (g.trans g3).trans g4
      cases b with
      | false =>
        rw [if_neg Bool.false_ne_true]
        exact ⟨rfl, hlt, F4, m4, S3, accD, acc, G4, hH4, hF4, hm4, ra.gr (g3.trans g4), by omega, P2⟩
      | true =>
        rw [if_pos rfl]
        obtain ⟨v, S4, ee, P3⟩ := noX_ok P2
        refine tE.ofF g4.w (re2.gr g4) ?_
        rw [ee]
        intro F5 H5 m5 g5 y ry
        obtain ⟨hH5, hF5, hm5⟩ := g5.frm D0 _ hH4 hF4 hm4
        refine ⟨acc, hH5, by omega, rfl, hlt, F5, m5, S4, accD ++ [v.1], acc ++ [y], (G4.trans g5).own hD hF5 hm5, upd_same, hF5, hm5, (ra.gr ((g3.trans g4).trans g5)).append (.one ry), by simp; omega, P3⟩
  · have e : i = ds.length := by omega
    subst e
    rw [List.drop_length] at P
    exact .inl ⟨i2, P F2 H m2 g acc hH hF hm (by omega) ra⟩
end
section
variable {pg : Pg} {N : List Str} {sc : Scope}
def notSet : Expr → Bool
  | .Set .. => false
  | _ => true
theorem notSet_ok {e : Expr} {env : Env} (h : notSet e = true) (x : Value) : foldedSetIterable e env x = pure x := by
  cases e <;> first | rfl | cases h
theorem lc_pre {X : Cx} {W : WX} {ca : Ca} {fi : SI} {vs : List Nat} {p : Pt} {t : ST} {e : SE} {σ : St} {H : Hp} {Q : VK} (hp : ptIn vs p = true) (h : tE X.K W (cComp fi vs p t e ca) σ H Q) :
    tLc (tI X.K W (fi ca)) (gP X.K p) (tT X.K (fun _ _ _ _ => False) (t ca)) (tE X.K (fun _ _ _ _ => False) (e ca)) vs σ H Q := by
  obtain ⟨ρ, S, F, m, w, r, q⟩ := h
  refine ⟨ρ, S, F, m, w, r, Post.mono (Post.bind q) fun ds S1 F1 H1 m1 e1 g1 q1 J it D0 hD => ?_⟩
  refine comp_core g1.w it (r.gr g1) hp hD (Post.mono (Post.bind q1) fun res S2 F2 H2 m2 e2 g2 q2 xs h1 h2 h3 h4 h5 => ?_)
  exact q2 F2 H2 m2 (Gr.refl g2.w) (.ref D0) ⟨D0, xs, res, rfl, rfl, g1.fresh hD, h1, h2, h3, h4, h5⟩
theorem okLc {elt tg iter : Expr} {ifs : List Expr} {scope : Scope} {own : List (Str × Nat)} {pos : Pos} {fi : SI} {p : Pt} {t : ST} {e : SE} {n : Nat} (hb : blkC N sc scope own = true) (hs : notSet iter = true) (hi : OkI pg N sc tg iter fi) (hg : tgt (ownOk N scope) n tg = some p)
    (hp : ptIn (own.map (·.2)) p = true) (ht : OkTs pg N (relS scope sc) ifs t) (he : OkE pg N (relS scope sc) elt e) : OkE pg N sc (.ListComp elt [⟨tg, iter, ifs, 0⟩] scope pos) (cComp fi (own.map (·.2)) p t e) := fun X ca lev W C => by
  refine PE.imp (pe_lc (own := own) (g := gP X.K p) (tt := tT X.K (fun _ _ _ _ => False) (t ca)) (te := tE X.K (fun _ _ _ _ => False) (e ca)) C.calm C.nd (hi X ca lev W C) (by rw [C.names, C.sc]; exact blkOk_by hb)
    (fun s H A cl fp => tgt_ok (C.blk s H scope cl A fp).nd (C.blk s H scope cl A fp).calm (fun x i h => own_st C h) n tg p hg)
    (fun s H A cl fp => ht _ ca lev _ (C.blk s H scope cl A fp)) (fun s H A cl fp => he _ ca lev _ (C.blk s H scope cl A fp)) (notSet_ok hs)) fun σ H Q h => lc_pre hp h
end
end EV

namespace EV
open PySem PySem.Spec PyProof.Rows L2

/-! ### lists that are one's own -/
/-- F without the lists at ps -/
def thaw (F : Hp) (ps : List Addr) : Hp := fun a => if a ∈ ps then none else F a
theorem thaw_sub {F : Hp} {ps : List Addr} : Sub (thaw F ps) F := fun a o e => by
  unfold thaw at e
  split at e
  · cases e
  · exact e
theorem thaw_keep {F : Hp} {ps : List Addr} {a : Addr} {o : HO} (h : F a = some o) (hp : ∀ a ∈ ps, ∃ xs, F a = some (.lst xs)) (ho : ∀ xs, o ≠ .lst xs) : thaw F ps a = some o := by
  unfold thaw
  split
  · rename_i hm
    obtain ⟨xs, e⟩ := hp a hm
    rw [h] at e; cases e
    exact absurd rfl (ho xs)
  · exact h
theorem exo_lst {e C : Addr} {d : Option Addr} {xs : List V} : exo e C d ≠ .lst xs := fun z => by
  have z' : HO.ext _ = HO.lst xs := z
  cases z'
theorem exd_lst {e : Addr} {fs : List (Str × V)} {xs : List V} : exd e fs ≠ .lst xs := fun z => by
  have z' : HO.ext _ = HO.lst xs := z
  cases z'
theorem SqT.thaw {K : PySem.W.Frag} {F : Hp} {ps : List Addr} {p : Addr} {xs : List V} (hp : ∀ a ∈ ps, ∃ xs, F a = some (.lst xs)) (h : SqT K F p xs) : SqT K (thaw F ps) p xs := by
  rcases h with (h | ⟨o, h⟩) | h
  · exact .inl (.inl (thaw_keep h hp fun _ z => by cases z))
  · exact .inl (.inr ⟨o, thaw_keep h hp fun _ z => by cases z⟩)
  · exact .inr h
theorem SqL.thaw {K : PySem.W.Frag} {F : Hp} {ps : List Addr} {p : Addr} {xs : List V} (hp : ∀ a ∈ ps, ∃ xs, F a = some (.lst xs)) (hn : p ∉ ps) (h : SqL K F p xs) : SqL K (EV.thaw F ps) p xs := by
  have e : EV.thaw F ps p = F p := by unfold EV.thaw; rw [if_neg hn]
  rcases h with (h | ⟨o, h⟩) | h
  · exact .inl (.inl (e.trans h))
  · exact .inl (.inr ⟨o, e.trans h⟩)
  · exact .inr h
mutual
theorem Rep.thaw {K : PySem.W.Frag} {F : Hp} {m : List Addr} {ps : List Addr} (hp : ∀ a ∈ ps, ∃ xs, F a = some (.lst xs)) : ∀ (d : D) (v : V), imm d = true → Rep K F m d v → Rep K (thaw F ps) m d v
  | .non, v, _, h => by simpa only [Rep] using h
  | .bl b, v, _, h => by simpa only [Rep] using h
  | .int i, v, _, h => by simpa only [Rep] using h
  | .str x, v, _, h => by simpa only [Rep] using h
  | .tup ds, v, hi, h => by
    simp only [Rep] at h ⊢
    simp only [imm] at hi
    obtain ⟨p, xs, e, q, z, r⟩ := h
    exact ⟨p, xs, e, SqT.thaw hp q, z, RepL.thaw hp ds xs hi r⟩
  | .lst ds, v, hi, h => by simp only [imm] at hi; cases hi
  | .dic ks vs, v, hi, h => by simp only [imm] at hi; cases hi
  | .ins cl ns ds, v, hi, h => by
    simp only [Rep] at h ⊢
    simp only [imm] at hi
    obtain ⟨p, dx, fs, e, q, z, r⟩ := h
    exact ⟨p, dx, fs, e, thaw_keep q hp (fun _ z => by cases z), z, RepL.thaw hp ds _ hi r⟩
  | .exc cl d, v, hi, h => by
    simp only [Rep] at h ⊢
    simp only [imm] at hi
    obtain ⟨p, dx, x, e, q, z, r⟩ := h
    exact ⟨p, dx, x, e, thaw_keep q hp (fun _ => exo_lst), thaw_keep z hp (fun _ => exd_lst), Rep.thaw hp d x hi r⟩
  | .cel i, v, hi, h => by simpa only [Rep] using h
  | .scr ns, v, hi, h => by simp only [imm] at hi; cases hi
theorem RepL.thaw {K : PySem.W.Frag} {F : Hp} {m : List Addr} {ps : List Addr} (hp : ∀ a ∈ ps, ∃ xs, F a = some (.lst xs)) : ∀ (ds : List D) (vs : List V), immL ds = true → RepL K F m ds vs → RepL K (thaw F ps) m ds vs
  | [], vs, _, h => by simpa only [RepL] using h
  | d :: ds, vs, hi, h => by
    simp only [RepL] at h ⊢
    simp only [immL, Bool.and_eq_true] at hi
    obtain ⟨x, xs, e, r, q⟩ := h
    exact ⟨x, xs, e, Rep.thaw hp d x hi.1 r, RepL.thaw hp ds xs hi.2 q⟩
end

/-! ### a body's slots -/
abbrev SEn := List (Option B)
structure SEnv (K : PySem.W.Frag) (H0 F H : Hp) (m : List Addr) (ρ : SEn) (σ : St) : Prop where
  len : ρ.length = σ.length
  get : ∀ (i : Nat) b, ρ[i]? = some (some b) → ∃ v, σ[i]? = some (some v) ∧ RepB K H0 F H m b v
  dis : ∀ (i j : Nat) a b p, i ≠ j → ρ[i]? = some (some (a, true)) → ρ[j]? = some (some (b, true)) → σ[i]? = some (some (.ref p)) → σ[j]? ≠ some (some (.ref p))
/-- what an expression sees: of one's own lists those at ms alone -/
def viewB (keep : Bool) : Option B → Option D
  | some (d, false) => some d
  | some (d, true) => if keep then some d else none
  | none => none
def view (ms : List Nat) (ρ : SEn) : En := (List.range ρ.length).map fun i => viewB (ms.contains i) (ρ.getD i none)
/-- one's own lists at ms are one's own no more -/
def giveB (keep : Bool) : Option B → Option B
  | some (d, o) => some (d, o && !keep)
  | none => none
def give (ms : List Nat) (ρ : SEn) : SEn := (List.range ρ.length).map fun i => giveB (ms.contains i) (ρ.getD i none)
def immB (b : B) : Bool := match b with
  | (.lst ds, true) => immL ds
  | (d, _) => imm d
def ownAt (ρ : SEn) (i : Nat) : Bool := match ρ[i]? with
  | some (some (_, true)) => true
  | _ => false
/-- behind an expression's value -/
def after (ms : List Nat) (ρ : SEn) (b : B) : SEn := if ms.any (ownAt ρ) && !immB b then give ms ρ else ρ
def ex1 (ms : List Nat) (f : SE) (ca : Ca) (ρ : SEn) (S : Cells) : R (B × SEn) := (f ca (view ms ρ) S).bind fun b S => .ok (b, after ms ρ b) S
theorem view_get {ms : List Nat} {ρ : SEn} {i : Nat} : (view ms ρ)[i]? = (ρ[i]?).map (viewB (ms.contains i)) := by
  unfold view
  rw [List.getElem?_map]
  by_cases h : i < ρ.length
  · rw [List.getElem?_range h]
    simp [List.getD_eq_getElem?_getD, h]
  · rw [List.getElem?_eq_none (by simp; omega), List.getElem?_eq_none (by omega)]; rfl
theorem give_get {ms : List Nat} {ρ : SEn} {i : Nat} : (give ms ρ)[i]? = (ρ[i]?).map (giveB (ms.contains i)) := by
  unfold give
  rw [List.getElem?_map]
  by_cases h : i < ρ.length
  · rw [List.getElem?_range h]
    simp [List.getD_eq_getElem?_getD, h]
  · rw [List.getElem?_eq_none (by simp; omega), List.getElem?_eq_none (by omega)]; rfl
theorem view_len {ms : List Nat} {ρ : SEn} : (view ms ρ).length = ρ.length := by unfold view; simp
theorem give_len {ms : List Nat} {ρ : SEn} : (give ms ρ).length = ρ.length := by unfold give; simp

section
variable {K : PySem.W.Frag} {F0 H0 F H F' H' : Hp} {m0 m m' : List Addr} {S S' : Cells} {ρ : SEn} {σ : St} {ms : List Nat}
/-- where one's own lists at ms stand -/
def ownPs (ms : List Nat) (ρ : SEn) (σ : St) : List Addr := ms.filterMap fun i => match ρ[i]?, σ[i]? with
  | some (some (_, true)), some (some (V.ref p)) => some p
  | _, _ => none
theorem mem_ownPs {p : Addr} (h : p ∈ ownPs ms ρ σ) : ∃ i d, i ∈ ms ∧ ρ[i]? = some (some (d, true)) ∧ σ[i]? = some (some (.ref p)) := by
  unfold ownPs at h
  obtain ⟨i, hi, e⟩ := List.mem_filterMap.mp h
  split at e
  · rename_i d q h1 h2
    cases e
    exact ⟨i, d, hi, h1, h2⟩
  · cases e
theorem ownPs_mem {i : Nat} {d : D} {p : Addr} (h : i ∈ ms) (h1 : ρ[i]? = some (some (d, true))) (h2 : σ[i]? = some (some (.ref p))) : p ∈ ownPs ms ρ σ := by
  unfold ownPs
  exact List.mem_filterMap.mpr ⟨i, h, by rw [h1, h2]⟩
theorem SEnv.ownAt (s : SEnv K H0 F H m ρ σ) {p : Addr} (h : p ∈ ownPs ms ρ σ) : ∃ i ds xs, i ∈ ms ∧ ρ[i]? = some (some (.lst ds, true)) ∧ σ[i]? = some (some (.ref p)) ∧ H0 p = none ∧ H p = some (.lst xs) ∧ F p = none ∧ p ∉ m ∧ xs.length ≤ sizeLine ∧ RepL K F m ds xs := by
  obtain ⟨i, d, h1, h2, h3⟩ := mem_ownPs h
  obtain ⟨v, h4, q, xs, ds, e1, e2, r⟩ := s.get i _ h2
  rw [h3] at h4; cases h4; cases e2
  have e1' : d = .lst ds := e1
  subst e1'
  exact ⟨i, ds, xs, h1, h2, h3, r⟩
/-- F with one's own lists at ms frozen -/
def frzM (F H : Hp) (ps : List Addr) : Hp := fun a => if a ∈ ps then H a else F a
theorem frzM_sub (s : SEnv K H0 F H m ρ σ) : Sub F (frzM F H (ownPs ms ρ σ)) := fun a o e => by
  unfold frzM
  split
  · rename_i hm
    obtain ⟨_, _, _, _, _, _, _, _, h, _⟩ := s.ownAt hm
    rw [h] at e; cases e
  · exact e
theorem frzM_gr (g : Gr K F0 H0 m0 F H m S) (s : SEnv K H0 F H m ρ σ) : Gr K F0 H0 m0 (frzM F H (ownPs ms ρ σ)) H m S := by
  refine ⟨⟨fun a o e => ?_, g.w.len, g.w.nd, fun i a ds h1 h2 => ?_, g.w.im⟩, g.up.trans (frzM_sub s), g.ext, fun a o h1 h2 h3 => ?_⟩
  · unfold frzM at e
    split at e
    · exact e
    · exact g.w.sub a o e
  · obtain ⟨q1, xs, q2, q3, q4⟩ := g.w.cel i a ds h1 h2
    refine ⟨?_, xs, q2, q3, q4.up (frzM_sub s) Ext.refl⟩
    unfold frzM
    rw [if_neg fun hm => ?_]
    · exact q1
    · obtain ⟨_, _, _, _, _, _, _, _, _, h, _⟩ := s.ownAt hm
      exact h (List.mem_of_getElem? h1)
  · obtain ⟨q1, q2, q3⟩ := g.frm a o h1 h2 h3
    refine ⟨q1, ?_, q3⟩
    unfold frzM
    rw [if_neg fun hm => ?_]
    · exact q2
    · obtain ⟨_, _, _, _, _, _, h, _⟩ := s.ownAt hm
      rw [h] at h1; cases h1
theorem SEnv.view (s : SEnv K H0 F H m ρ σ) : REnv K (frzM F H (ownPs ms ρ σ)) m (EV.view ms ρ) σ := by
  refine ⟨by rw [view_len]; exact s.len, fun i d e => ?_⟩
  rw [view_get] at e
  cases h : ρ[i]? with
  | none => rw [h] at e; cases e
  | some b =>
    rw [h] at e
    cases b with
    | none => cases e
    | some b =>
      obtain ⟨d', o⟩ := b
      obtain ⟨v, h1, h2⟩ := s.get i _ h
      refine ⟨v, h1, ?_⟩
      cases o with
      | false =>
        have e' : some (some d') = some (some d) := e
        cases e'
        exact Rep.up (frzM_sub s) Ext.refl _ _ h2
      | true =>
        have e' : some (if ms.contains i then some d' else none) = some (some d) := e
        split at e'
        · rename_i hc
          cases e'
          obtain ⟨p, xs, ds, e1, e2, q1, q2, q3, q4, q5, q6⟩ := h2
          have e1' : d = .lst ds := e1
          subst e1' e2
          simp only [Rep]
          refine ⟨p, xs, rfl, ?_, q5, q6.up (frzM_sub s) Ext.refl⟩
          unfold frzM
          rw [if_pos (ownPs_mem (by simpa using hc) h h1)]
          exact q2
        · cases e'

theorem frzM_at (s : SEnv K H0 F H m ρ σ) : ∀ a ∈ ownPs ms ρ σ, ∃ xs, frzM F H (ownPs ms ρ σ) a = some (.lst xs) := fun a ha => by
  obtain ⟨_, _, xs, _, _, _, _, h, _⟩ := s.ownAt ha
  exact ⟨xs, by unfold frzM; rw [if_pos ha]; exact h⟩
/-- what stands behind an expression, one's own lists at ms being given away -/
theorem SEnv.given (s : SEnv K H0 F H m ρ σ) (g : Gr K (frzM F H (ownPs ms ρ σ)) H m F' H' m' S') : SEnv K H0 F' H' m' (give ms ρ) σ := by
  refine ⟨by rw [give_len]; exact s.len, fun i b e => ?_, fun i j a b p hij h1 h2 h3 => ?_⟩
  · rw [give_get] at e
    cases h : ρ[i]? with
    | none => rw [h] at e; cases e
    | some c =>
      rw [h] at e
      cases c with
      | none => cases e
      | some c =>
        obtain ⟨d, o⟩ := c
        have e' : some (some (d, o && !ms.contains i)) = some (some b) := e
        cases e'
        obtain ⟨v, q1, q2⟩ := s.get i _ h
        refine ⟨v, q1, ?_⟩
        cases o with
        | false => exact Rep.gr g (Rep.up (frzM_sub s) Ext.refl _ _ q2)
        | true =>
          obtain ⟨p, xs, ds, e1, e2, z1, z2, z3, z4, z5, z6⟩ := q2
          have e1' : d = .lst ds := e1
          subst e1' e2
          cases hc : ms.contains i with
          | true =>
            show Rep K F' m' (.lst ds) (.ref p)
            refine Rep.gr g ?_
            simp only [Rep]
            refine ⟨p, xs, rfl, ?_, z5, z6.up (frzM_sub s) Ext.refl⟩
            unfold frzM
            rw [if_pos (ownPs_mem (by simpa using hc) h q1)]
            exact z2
          | false =>
            have hn : p ∉ ownPs ms ρ σ := fun hm => by
              obtain ⟨j, ds', _, hj, h5, h6, _⟩ := s.ownAt hm
              by_cases hij : i = j
              · subst hij
                have : ms.contains i = true := by simpa using hj
                rw [hc] at this; cases this
              · exact s.dis i j _ _ p hij h h5 q1 h6
            have hf : frzM F H (ownPs ms ρ σ) p = none := by unfold frzM; rw [if_neg hn]; exact z3
            obtain ⟨y1, y2, y3⟩ := g.frm p _ z2 hf z4
            exact ⟨p, xs, ds, rfl, rfl, z1, y1, y2, y3, z5, (z6.up (frzM_sub s) Ext.refl).gr g⟩
  · rw [give_get] at h1 h2
    have key : ∀ (k : Nat) (a : D), (ρ[k]?).map (giveB (ms.contains k)) = some (some (a, true)) → ρ[k]? = some (some (a, true)) := fun k a e => by
      cases h : ρ[k]? with
      | none => rw [h] at e; cases e
      | some c =>
        rw [h] at e
        cases c with
        | none => cases e
        | some c =>
          obtain ⟨d, o⟩ := c
          have e' : some (some (d, o && !ms.contains k)) = some (some (a, true)) := e
          cases o with
          | false => cases e'
          | true =>
            have e2 := congrArg (fun z => z) e'
            simp only [Option.some.injEq, Prod.mk.injEq] at e2
            rw [e2.1]
    exact s.dis i j a b p hij (key i a h1) (key j b h2) h3
/-- .. being kept -/
theorem SEnv.kept (s : SEnv K H0 F H m ρ σ) (g : Gr K (frzM F H (ownPs ms ρ σ)) H m F' H' m' S') : SEnv K H0 (thaw F' (ownPs ms ρ σ)) H' m' ρ σ := by
  have sb : Sub F (thaw F' (ownPs ms ρ σ)) := fun a o e => by
    have h1 := g.up a o (frzM_sub s a o e)
    unfold thaw
    rw [if_neg fun hm => ?_]
    · exact h1
    · obtain ⟨_, _, _, _, _, _, _, _, h, _⟩ := s.ownAt hm
      rw [h] at e; cases e
  refine ⟨s.len, fun i b h => ?_, s.dis⟩
  obtain ⟨v, q1, q2⟩ := s.get i _ h
  refine ⟨v, q1, ?_⟩
  obtain ⟨d, o⟩ := b
  cases o with
  | false => exact Rep.up sb g.ext _ _ q2
  | true =>
    obtain ⟨p, xs, ds, e1, e2, z1, z2, z3, z4, z5, z6⟩ := q2
    have e1' : d = .lst ds := e1
    subst e1' e2
    by_cases hm : p ∈ ownPs ms ρ σ
    · have hf : frzM F H (ownPs ms ρ σ) p = some (.lst xs) := by unfold frzM; rw [if_pos hm]; exact z2
      refine ⟨p, xs, ds, rfl, rfl, z1, g.w.sub _ _ (g.up _ _ hf), by unfold thaw; rw [if_pos hm], fun hmm => ?_, z5, z6.up sb g.ext⟩
      obtain ⟨i, hi⟩ := List.mem_iff_getElem?.mp hmm
      have hlt : i < S'.length := by rw [← g.w.len]; exact (List.getElem?_eq_some_iff.mp hi).1
      have := (g.w.cel i p _ hi (List.getElem?_eq_getElem hlt)).1
      rw [g.up _ _ hf] at this; cases this
    · have hf : frzM F H (ownPs ms ρ σ) p = none := by unfold frzM; rw [if_neg hm]; exact z3
      obtain ⟨y1, y2, y3⟩ := g.frm p _ z2 hf z4
      refine ⟨p, xs, ds, rfl, rfl, z1, y1, ?_, y3, z5, z6.up sb g.ext⟩
      unfold thaw
      rw [if_neg hm]; exact y2
theorem thaw_gr (g0 : Gr K F0 H0 m0 F H m S) (s : SEnv K H0 F H m ρ σ) (g : Gr K (frzM F H (ownPs ms ρ σ)) H m F' H' m' S') : Gr K F0 H0 m0 (thaw F' (ownPs ms ρ σ)) H' m' S' := by
  have G := (frzM_gr (ms := ms) g0 s).trans g
  have hp : ∀ a ∈ ownPs ms ρ σ, ∃ xs, F' a = some (.lst xs) := fun a ha => by
    obtain ⟨xs, e⟩ := frzM_at s a ha
    exact ⟨xs, g.up _ _ e⟩
  refine ⟨⟨fun a o e => G.w.sub a o (thaw_sub a o e), G.w.len, G.w.nd, fun i a ds h1 h2 => ?_, G.w.im⟩, fun a o e => ?_, G.ext, fun a o h1 h2 h3 => ?_⟩
  · obtain ⟨q1, xs, q2, q3, q4⟩ := G.w.cel i a ds h1 h2
    refine ⟨?_, xs, q2, q3, q4.thaw hp _ _ (G.w.im i ds h2)⟩
    unfold thaw
    split
    · rfl
    · exact q1
  · have h1 := G.up a o e
    unfold thaw
    rw [if_neg fun hm => ?_]
    · exact h1
    · obtain ⟨_, _, _, _, _, _, _, _, h, _⟩ := s.ownAt hm
      rw [g0.up a o e] at h; cases h
  · obtain ⟨q1, q2, q3⟩ := G.frm a o h1 h2 h3
    refine ⟨q1, ?_, q3⟩
    unfold thaw
    split
    · rfl
    · exact q2
/-- what is told of a value that is no list of one's slots -/
def Apart (ρ : SEn) (σ : St) (b : B) (v : V) : Prop := b.2 = true → ∀ (i : Nat) a, ρ[i]? = some (some (a, true)) → σ[i]? ≠ some (some v)
/-- an expression of a statement -/
theorem stEx {W : WX} {f : SE} {ca : Ca} {Q : VK} (g : Gr K F0 H0 m0 F H m S) (s : SEnv K H0 F H m ρ σ)
    (h : Post K W σ F0 H0 m0 (ex1 ms f ca ρ S) fun r _ F' H' m' => ∀ v, SEnv K H0 F' H' m' r.2 σ → RepB K H0 F' H' m' r.1 v → Apart r.2 σ r.1 v → Q v H') : tE K W (f ca) σ H Q := by
  refine ⟨view ms ρ, S, frzM F H (ownPs ms ρ σ), m, (frzM_gr (ms := ms) g s).w, s.view, ?_⟩
  have G0 := frzM_gr (ms := ms) g s
  cases e : f ca (view ms ρ) S with
  | no => unfold ex1 at h; rw [e] at h; exact h
  | exn c d S' => unfold ex1 at h; rw [e] at h; exact Wish.gr G0 h
  | ok b S' =>
    unfold ex1 at h
    rw [e] at h
    intro F' H' m' g' v rv
    have G := G0.trans g'
    have rv0 : RepB K H0 F' H' m' b v := RepB.weak G0 rv
    have hp : ∀ a ∈ ownPs ms ρ σ, ∃ xs, F' a = some (.lst xs) := fun a ha => by
      obtain ⟨xs, e⟩ := frzM_at s a ha
      exact ⟨xs, g'.up _ _ e⟩
    have apart : ∀ (i : Nat) a, ρ[i]? = some (some (a, true)) → b.2 = true → σ[i]? ≠ some (some v) := fun i a hi hb hv => by
      obtain ⟨d, o⟩ := b
      have hb' : o = true := hb
      subst hb'
      obtain ⟨p, xs, ds, e1, e2, z1, _⟩ := rv
      subst e2
      obtain ⟨v', y1, p', xs', ds', e1', e2', _, y2, _⟩ := s.get i _ hi
      rw [hv] at y1; cases y1; cases e2'
      rw [z1] at y2; cases y2
    have P : Post K W σ F0 H0 m0 (.ok (b, after ms ρ b) S') fun r _ F' H' m' => ∀ v, SEnv K H0 F' H' m' r.2 σ → RepB K H0 F' H' m' r.1 v → Apart r.2 σ r.1 v → Q v H' := h
    by_cases hi : immB b = true
    · have ea : after ms ρ b = ρ := by unfold after; rw [hi]; simp
      rw [ea] at P
      refine P _ H' m' (thaw_gr g s g') v (s.kept g') ?_ fun hb i a hi' => apart i a hi' hb
      obtain ⟨d, o⟩ := b
      cases o with
      | false =>
        have hi2 : imm d = true := by
          unfold immB at hi
          split at hi
          · rename_i heq; cases heq
          · rename_i heq; cases heq; exact hi
        exact Rep.thaw hp d v hi2 rv0
      | true =>
        obtain ⟨p, xs, ds, e1, e2, z1, z2, z3, z4, z5, z6⟩ := rv0
        have e1' : d = .lst ds := e1
        subst e1'
        refine ⟨p, xs, ds, rfl, e2, z1, z2, ?_, z4, z5, z6.thaw hp _ _ hi⟩
        unfold thaw
        split
        · rfl
        · exact z3
    · by_cases hm : ms.any (EV.ownAt ρ) = true
      · have ea : after ms ρ b = give ms ρ := by unfold after; rw [hm]; simp [hi]
        rw [ea] at P
        refine P F' H' m' G v (s.given g') rv0 fun hb i a hi' => ?_
        rw [give_get] at hi'
        cases h : ρ[i]? with
        | none => rw [h] at hi'; cases hi'
        | some c =>
          rw [h] at hi'
          cases c with
          | none => cases hi'
          | some c =>
            obtain ⟨d, o⟩ := c
            cases o with
            | false =>
              have e' : some (some (d, false && !ms.contains i)) = some (some (a, true)) := hi'
              cases e'
            | true => exact apart i d h hb
      · have ea : after ms ρ b = ρ := by unfold after; simp [hm]
        rw [ea] at P
        have eps : ownPs ms ρ σ = [] := by
          cases hq : ownPs ms ρ σ with
          | nil => rfl
          | cons p ps =>
            obtain ⟨i, d, h1, h2, _⟩ := mem_ownPs (ms := ms) (ρ := ρ) (σ := σ) (p := p) (by rw [hq]; exact List.mem_cons_self)
            exact absurd (List.any_eq_true.mpr ⟨i, h1, by unfold EV.ownAt; rw [h2]⟩) hm
        have K1 := s.kept g'
        have e2 : thaw F' (ownPs ms ρ σ) = F' := by funext a; unfold thaw; rw [eps]; simp
        rw [e2] at K1
        exact P F' H' m' G v K1 rv0 fun hb i a hi' => apart i a hi' hb
end
end EV

namespace EV
open PySem PySem.Spec PyProof.Rows L2

/-! ### statements -/
inductive Fl where
  | nx (ρ : SEn)
  | rt (b : B)
  | bk (ρ : SEn)
  | ct (ρ : SEn)
abbrev SS := Ca → SEn → Cells → R Fl
def PostS (K : PySem.W.Frag) (E : XK) (F0 H0 : Hp) (m0 : List Addr) (r : R Fl) (Dn : Ends) : Prop :=
  match r with
  | .ok (.nx ρ) S => ∀ σ F H m, Gr K F0 H0 m0 F H m S → SEnv K H0 F H m ρ σ → Dn.nx σ H
  | .ok (.bk ρ) S => ∀ σ F H m, Gr K F0 H0 m0 F H m S → SEnv K H0 F H m ρ σ → Dn.bk σ H
  | .ok (.ct ρ) S => ∀ σ F H m, Gr K F0 H0 m0 F H m S → SEnv K H0 F H m ρ σ → Dn.ct σ H
  | .ok (.rt b) S => ∀ v F H m, Gr K F0 H0 m0 F H m S → RepB K H0 F H m b v → Dn.rt v H
  | .exn c d S => Wish K (fun c d _ H => E c d H) [] F0 H0 m0 c d S
  | .no => False
def tS (K : PySem.W.Frag) (E : XK) (F0 H0 : Hp) (m0 : List Addr) (f : SEn → Cells → R Fl) : TS := fun Dn σ H => ∃ ρ S F m, Gr K F0 H0 m0 F H m S ∧ SEnv K H0 F H m ρ σ ∧ PostS K E F0 H0 m0 (f ρ S) Dn
structure CtxS (X : Cx) (sc : Scope) (N : List Str) (pg : Pg) (ca : Ca) (lev : Nat) (E : XK) : Prop where
  c : Ctx X sc N pg ca lev (fun c d _ H => E c d H)
  fn : ∀ x, X.fn x = true
  own : PassesOwn (model X.prog X.w) X.A X.env X.xe
def OkS (pg : Pg) (N : List Str) (sc : Scope) (st : Stmt) (f : SS) : Prop := ∀ X ca lev E F0 H0 m0, CtxS X sc N pg ca lev E → PS X st (tS X.K E F0 H0 m0 (f ca))
def OkSs (pg : Pg) (N : List Str) (sc : Scope) (st : List Stmt) (f : SS) : Prop := ∀ X ca lev E F0 H0 m0, CtxS X sc N pg ca lev E → PSs X st (tS X.K E F0 H0 m0 (f ca))
theorem wish_sig {K : PySem.W.Frag} {E : XK} {σ σ' : St} {F H : Hp} {m : List Addr} {c : Str} {d : D} {S : Cells} (h : Wish K (fun c d _ H => E c d H) σ F H m c d S) : Wish K (fun c d _ H => E c d H) σ' F H m c d S := h
/-- an expression, then what follows -/
theorem postS_ex {α : Type} {K : PySem.W.Frag} {E : XK} {σ : St} {F0 H0 : Hp} {m0 : List Addr} {Dn : Ends} {r : R α} {k : α → Cells → R Fl} (h : PostS K E F0 H0 m0 (r.bind k) Dn) :
    Post K (fun c d _ H => E c d H) σ F0 H0 m0 r fun a S1 _ _ _ => PostS K E F0 H0 m0 (k a S1) Dn := by
  cases r with
  | ok a S => exact fun _ _ _ _ => h
  | exn c d S => exact h
  | no => exact h
section
variable {pg : Pg} {N : List Str} {sc : Scope}
def sPass : SS := fun _ ρ S => .ok (.nx ρ) S
def sSeq (f g : SS) : SS := fun ca ρ S => (f ca ρ S).bind fun fl S => match fl with
  | .nx ρ => g ca ρ S
  | fl => .ok fl S
def sRet (ms : List Nat) (f : SE) : SS := fun ca ρ S => (ex1 ms f ca ρ S).bind fun r S => .ok (.rt r.1) S
def sRetN : SS := fun _ _ S => .ok (.rt (.non, false)) S
def sExpr (ms : List Nat) (f : SE) : SS := fun ca ρ S => (ex1 ms f ca ρ S).bind fun r S => .ok (.nx r.2) S
def sSet (i : Nat) (ms : List Nat) (f : SE) : SS := fun ca ρ S => (ex1 ms f ca ρ S).bind fun r S => if i < r.2.length then .ok (.nx (r.2.set i (some r.1))) S else .no
def exT (ms : List Nat) (t : ST) (ca : Ca) (ρ : SEn) (S : Cells) : R Bool := t ca (view ms ρ) S
def sIf (ms : List Nat) (t : ST) (f g : SS) : SS := fun ca ρ S => (exT ms t ca ρ S).bind fun b S => match b with
  | true => f ca ρ S
  | false => g ca ρ S
theorem okPass {pos : Pos} : OkS pg N sc (.Pass pos) sPass := fun X ca lev E F0 H0 m0 C => PS.imp ps_pass fun Dn σ H ⟨ρ, S, F, m, g, s, q⟩ => q σ F H m g s
theorem okSsNil : OkSs pg N sc [] sPass := fun X ca lev E F0 H0 m0 C => PSs.imp pss_nil fun Dn σ H ⟨ρ, S, F, m, g, s, q⟩ => q σ F H m g s
theorem okSsOne {st : Stmt} {f : SS} (h : OkS pg N sc st f) : OkSs pg N sc [st] f := fun X ca lev E F0 H0 m0 C => pss_one (h X ca lev E F0 H0 m0 C)
theorem okSsCons {st : Stmt} {sts : List Stmt} {f g : SS} (h : OkS pg N sc st f) (k : OkSs pg N sc sts g) : OkSs pg N sc (st :: sts) (sSeq f g) := fun X ca lev E F0 H0 m0 C =>
  PSs.imp (pss_cons (h X ca lev E F0 H0 m0 C) (k X ca lev E F0 H0 m0 C)) fun Dn σ H ⟨ρ, S, F, m, gr, s, q⟩ => by
    refine ⟨ρ, S, F, m, gr, s, ?_⟩
    unfold sSeq at q
    cases e : f ca ρ S with
    | no => rw [e] at q; exact q
    | exn c d S1 => rw [e] at q; exact q
    | ok fl S1 =>
      rw [e] at q
      cases fl with
      | nx ρ1 => exact fun σ1 F1 H1 m1 g1 s1 => ⟨ρ1, S1, F1, m1, g1, s1, q⟩
      | rt b => exact q
      | bk ρ1 => exact q
      | ct ρ1 => exact q
theorem okRet {e : Expr} {ms : List Nat} {f : SE} {pos : Pos} (h : OkE pg N sc e f) : OkS pg N sc (.Return (some e) pos) (sRet ms f) := fun X ca lev E F0 H0 m0 C =>
  PS.imp (ps_ret (h X ca lev _ C.c)) fun Dn σ H ⟨ρ, S, F, m, g, s, q⟩ => stEx g s (Post.mono (postS_ex q) fun r S1 F1 H1 m1 e1 g1 q1 v s1 rv _ => q1 v F1 H1 m1 g1 rv)
theorem okRetN {pos : Pos} : OkS pg N sc (.Return none pos) sRetN := fun X ca lev E F0 H0 m0 C =>
  PS.imp ps_retN fun Dn σ H ⟨ρ, S, F, m, g, s, q⟩ => q .non F H m g (by show Rep _ _ _ _ _; simp only [Rep])
def notComp : Expr → Bool
  | .ListComp .. => false
  | .SetComp .. => false
  | .DictComp .. => false
  | _ => true
theorem notComp_sw {e : Expr} {o : Option Expr} {l : Nat} {env : Env} (h : notComp e = true) : swapsWith e o l env = pure false := by
  cases e <;> first | rfl | cases h
theorem okExpr {e : Expr} {ms : List Nat} {f : SE} {pos : Pos} (hn : notComp e = true) (h : OkE pg N sc e f) : OkS pg N sc (.Expr e pos) (sExpr ms f) := fun X ca lev E F0 H0 m0 C =>
  PS.imp (ps_expr (h X ca lev _ C.c) (notComp_sw hn)) fun Dn σ H ⟨ρ, S, F, m, g, s, q⟩ => stEx g s (Post.mono (postS_ex q) fun r S1 F1 H1 m1 e1 g1 q1 v s1 rv _ => q1 σ F1 H1 m1 g1 s1)
theorem SEnv.set {K : PySem.W.Frag} {H0 F H : Hp} {m : List Addr} {ρ : SEn} {σ : St} {i : Nat} {b : B} {v : V} (s : SEnv K H0 F H m ρ σ) (rv : RepB K H0 F H m b v) (ap : Apart ρ σ b v) : SEnv K H0 F H m (ρ.set i (some b)) (σ.set i (some v)) := by
  have hl := s.len
  refine ⟨by simp [hl], fun j c hj => ?_, fun j k a c p hjk h1 h2 h3 h4 => ?_⟩
  · by_cases hij : i = j
    · subst hij
      by_cases hlt : i < ρ.length
      · rw [List.getElem?_set_self hlt] at hj
        cases hj
        exact ⟨v, List.getElem?_set_self (by omega), rv⟩
      · rw [List.getElem?_eq_none (by simp; omega)] at hj; cases hj
    · rw [List.getElem?_set_ne hij] at hj
      rw [List.getElem?_set_ne hij]
      exact s.get j c hj
  · by_cases hij : i = j
    · subst hij
      have hlt : i < ρ.length := by
        have := (List.getElem?_eq_some_iff.mp h1).1
        simpa using this
      rw [List.getElem?_set_self hlt] at h1
      rw [List.getElem?_set_self (by omega)] at h3
      rw [List.getElem?_set_ne hjk] at h2 h4
      cases h1; cases h3
      exact ap rfl k c h2 h4
    · rw [List.getElem?_set_ne hij] at h1 h3
      by_cases hik : i = k
      · subst hik
        have hlt : i < ρ.length := by
          have := (List.getElem?_eq_some_iff.mp h2).1
          simpa using this
        rw [List.getElem?_set_self hlt] at h2
        rw [List.getElem?_set_self (by omega)] at h4
        cases h2; cases h4
        exact ap rfl j a h1 h3
      · rw [List.getElem?_set_ne hik] at h2 h4
        exact s.dis j k a c p hjk h1 h2 h3 h4
def locB (sc : Scope) (x : Str) : Bool := match sc.names.lookup x with
  | some .local => true
  | some .cell => true
  | _ => false
theorem locB_ok {x : Str} (h : locB sc x = true) : Loc sc x := by
  unfold locB at h
  split at h
  · exact .inl (by assumption)
  · exact .inr (by assumption)
  · cases h
theorem set_fin {X : Cx} {E : XK} {F0 H0 : Hp} {m0 : List Addr} {ca : Ca} {i : Nat} {ms : List Nat} {f : SE} {Dn : Ends} {σ : St} {H : Hp} (h : tS X.K E F0 H0 m0 (sSet i ms f ca) Dn σ H) : tAsg (tE X.K (fun c d _ H => E c d H) (f ca)) (gName i) Dn σ H := by
  obtain ⟨ρ, S, F, m, g, s, q⟩ := h
  refine stEx g s (Post.mono (postS_ex q) fun r S1 F1 H1 m1 e1 g1 q1 v s1 rv ap => ?_)
  split at q1
  · exact q1 _ F1 H1 m1 g1 (s1.set rv ap)
  · exact q1.elim
theorem okSet {x : Str} {i : Nat} {e : Expr} {ms : List Nat} {f : SE} {pos pos' : Pos} (hi : slot? N x = some i) (hx : locB sc x = true) (hn : notComp e = true) (h : OkE pg N sc e f) : OkS pg N sc (.Assign [.Name x pos'] e pos) (sSet i ms f) := fun X ca lev E F0 H0 m0 C =>
  PS.imp (ps_set C.c.nd (by rw [C.c.names]; exact slot_ok hi) (by rw [C.c.sc]; exact locB_ok hx) (h X ca lev _ C.c) (notComp_sw hn) (.inl (C.fn x))) fun Dn σ H h => set_fin h
theorem stT {W : WX} {K : PySem.W.Frag} {F0 H0 F H : Hp} {m0 m : List Addr} {S : Cells} {ρ : SEn} {σ : St} {ms : List Nat} {t : ST} {ca : Ca} {Q : Bool → Hp → Prop} (g : Gr K F0 H0 m0 F H m S) (s : SEnv K H0 F H m ρ σ)
    (h : Post K W σ F0 H0 m0 (exT ms t ca ρ S) fun b _ F' H' m' => SEnv K H0 F' H' m' ρ σ → Q b H') : tT K W (t ca) σ H Q := by
  have G0 := frzM_gr (ms := ms) g s
  refine ⟨view ms ρ, S, _, m, G0.w, s.view, ?_⟩
  unfold exT at h
  cases e : t ca (view ms ρ) S with
  | no => rw [e] at h; exact h
  | exn c d S' => rw [e] at h; exact Wish.gr G0 h
  | ok b S' =>
    rw [e] at h
    exact fun F' H' m' g' => h _ H' m' (thaw_gr g s g') (s.kept g')
theorem okIfS {c : Expr} {a b : List Stmt} {ms : List Nat} {t : ST} {f g : SS} {pos : Pos} (hc : OkT pg N sc c t) (ha : OkSs pg N sc a f) (hb : OkSs pg N sc b g) : OkS pg N sc (.If c a b pos) (sIf ms t f g) := fun X ca lev E F0 H0 m0 C =>
  PS.imp (ps_if (hc X ca lev _ C.c) (ha X ca lev E F0 H0 m0 C) (hb X ca lev E F0 H0 m0 C)) fun Dn σ H ⟨ρ, S, F, m, gr, s, q⟩ => by
    refine stT gr s (Post.mono (postS_ex q) fun b S1 F1 H1 m1 e1 g1 q1 s1 => ?_)
    cases b with
    | true => exact ⟨ρ, S1, F1, m1, g1, s1, q1⟩
    | false => exact ⟨ρ, S1, F1, m1, g1, s1, q1⟩

/-! ### name = [comprehension] -/
def lcSwaps (sc scope : Scope) (y : Str) (py pos : Pos) : Bool := (sc.names.lookup y == some .local) && (py.line == pos.line) && !(scope.names.any fun (n, k) => n == y && (k == .local || k == .cell))
theorem sw_val {elt : Expr} {gs : List Comprehension} {scope : Scope} {pos py : Pos} {y : Str} {l : Nat} {env : Env} (hk : env.scope.kind = .function) : swapsWith (.ListComp elt gs scope pos) (some (.Name y py)) l env = pure (lcSwaps env.scope scope y py pos) := by
  have hb : env.blockKind = .function := by unfold Env.blockKind; rw [hk]; rfl
  have hkd : env.kindOf y = env.scope.names.lookup y := rfl
  unfold swapsWith lcSwaps
  simp only [hb, hkd, Expr.pos]
  rfl
theorem okSetLc {x : Str} {i : Nat} {elt tg iter : Expr} {ifs : List Expr} {scope : Scope} {own : List (Str × Nat)} {pos py spos : Pos} {fi : SI} {p : Pt} {t : ST} {e : SE} {n : Nat} {ms : List Nat} (hk : sc.kind = .function) (hi' : slot? N x = some i) (hx : locB sc x = true) (hb : blkC N sc scope own = true) (hs : notSet iter = true)
    (hi : OkI pg N sc tg iter fi) (hg : tgt (ownOk N scope) n tg = some p) (hp : ptIn (own.map (·.2)) p = true) (ht : OkTs pg N (relS scope sc) ifs t) (he : OkE pg N (relS scope sc) elt e) :
    OkS pg N sc (.Assign [.Name x py] (.ListComp elt [⟨tg, iter, ifs, 0⟩] scope pos) spos) (sSet i ms (cComp fi (own.map (·.2)) p t e)) := fun X ca lev E F0 H0 m0 C => by
  have hsw := sw_val (elt := elt) (gs := [⟨tg, iter, ifs, 0⟩]) (scope := scope) (pos := pos) (py := py) (y := x) (l := spos.line) (env := X.env) (by rw [C.c.sc]; exact hk)
  cases q : lcSwaps X.env.scope scope x py pos with
  | false =>
    rw [q] at hsw
    exact PS.imp (ps_set C.c.nd (by rw [C.c.names]; exact slot_ok hi') (by rw [C.c.sc]; exact locB_ok hx) (okLc hb hs hi hg hp ht he X ca lev _ C.c) hsw (.inl (C.fn x))) fun Dn σ H h => set_fin h
  | true =>
    rw [q] at hsw
    have hloc : X.env.scope.names.lookup x = some .local := by
      unfold lcSwaps at q
      simp only [Bool.and_eq_true] at q
      exact eq_of_beq q.1.1
    refine PS.imp (ps_setLc (own := own) (g := gP X.K p) (tt := tT X.K (fun _ _ _ _ => False) (t ca)) (te := tE X.K (fun _ _ _ _ => False) (e ca)) C.c.calm C.c.nd (by rw [C.c.names]; exact slot_ok hi') hloc hsw (hi X ca lev _ C.c) (by rw [C.c.names, C.c.sc]; exact blkOk_by hb)
      (fun s H A cl fp => tgt_ok (C.c.blk s H scope cl A fp).nd (C.c.blk s H scope cl A fp).calm (fun x i h => own_st C.c h) n tg p hg)
      (fun s H A cl fp => ht _ ca lev _ (C.c.blk s H scope cl A fp)) (fun s H A cl fp => he _ ca lev _ (C.c.blk s H scope cl A fp)) (notSet_ok hs)) fun Dn σ H h => ?_
    exact lc_pre hp (set_fin h)
end
end EV

namespace EV
open PySem PySem.Spec PyProof.Rows L2

/-! ### targets of statements -/
mutual
def bindS : Pt → D → SEn → Option SEn
  | .nm i, d, ρ => if i < ρ.length then some (ρ.set i (some (d, false))) else none
  | .tp ps, d, ρ => match d with
    | .tup ds => bindSs ps ds ρ
    | _ => none
def bindSs : List Pt → List D → SEn → Option SEn
  | [], [], ρ => some ρ
  | p :: ps, d :: ds, ρ => match bindS p d ρ with
    | some ρ' => bindSs ps ds ρ'
    | none => none
  | _, _, _ => none
end
def gS (K : PySem.W.Frag) (H0 : Hp) (p : Pt) : TG := fun v σ H Q => ∃ F m d ρ ρ', Sub F H ∧ Rep K F m d v ∧ SEnv K H0 F H m ρ σ ∧ bindS p d ρ = some ρ' ∧ ∀ σ', SEnv K H0 F H m ρ' σ' → Q σ' H
def gSs (K : PySem.W.Frag) (H0 : Hp) (ps : List Pt) : TGs := fun vs σ H Q => ∃ F m ds ρ ρ', Sub F H ∧ RepL K F m ds vs ∧ SEnv K H0 F H m ρ σ ∧ bindSs ps ds ρ = some ρ' ∧ ∀ σ', SEnv K H0 F H m ρ' σ' → Q σ' H
section
variable {X : Cx} {H0 : Hp}
theorem sgNm {x : Str} {i : Nat} {pos : Pos} (hN : X.N.Nodup) (h : StOk X x i) : PG X (.Name x pos) (gS X.K H0 (.nm i)) :=
  PG.imp (pg_name hN h.1 h.2.1 h.2.2) fun v σ H Q ⟨F, m, d, ρ, ρ', sb, rd, re, hb, q⟩ => by
    simp only [bindS] at hb
    split at hb
    · cases hb
      exact q _ (re.set rd fun z => by cases z)
    · cases hb
theorem sgsNil : PGs X [] (gSs X.K H0 []) := PGs.imp pgs_nil fun vs σ H Q ⟨F, m, ds, ρ, ρ', sb, rd, re, hb, q⟩ => by
  cases ds with
  | nil =>
    simp only [RepL] at rd
    simp only [bindSs] at hb
    cases hb
    exact ⟨rd, q σ re⟩
  | cons d ds => simp only [bindSs] at hb; cases hb
theorem sgsCons {e : Expr} {es : List Expr} {p : Pt} {ps : List Pt} (hs : noStar e = true) (h1 : PG X e (gS X.K H0 p)) (h2 : PGs X es (gSs X.K H0 ps)) : PGs X (e :: es) (gSs X.K H0 (p :: ps)) :=
  PGs.imp (pgs_cons h1 h2 (by rw [assignEach_cons hs]; rfl)) fun vs σ H Q ⟨F, m, ds, ρ, ρ', sb, rd, re, hb, q⟩ => by
    cases ds with
    | nil => simp only [bindSs] at hb; cases hb
    | cons d ds =>
      simp only [RepL] at rd
      obtain ⟨x, xs, rfl, r1, r2⟩ := rd
      simp only [bindSs] at hb
      cases e1 : bindS p d ρ with
      | none => rw [e1] at hb; cases hb
      | some ρ1 =>
        rw [e1] at hb
        exact ⟨x, xs, rfl, F, m, d, ρ, ρ1, sb, r1, re, e1, fun σ1 re1 => ⟨F, m, ds, ρ1, ρ', sb, r2, re1, hb, q⟩⟩
theorem bindSs_count : ∀ (ps : List Pt) (ds : List D) (ρ ρ' : SEn), bindSs ps ds ρ = some ρ' → ds.length = ps.length
  | [], ds, ρ, ρ', h => by
    cases ds <;> simp only [bindSs] at h
    · rfl
    · cases h
  | p :: ps, ds, ρ, ρ', h => by
    cases ds with
    | nil => simp only [bindSs] at h; cases h
    | cons d ds =>
      simp only [bindSs] at h
      cases e : bindS p d ρ with
      | none => rw [e] at h; cases h
      | some ρ1 =>
        rw [e] at h
        simp [bindSs_count ps ds ρ1 ρ' h]
theorem sgTp {es : List Expr} {ps : List Pt} {k : Nat} {pos : Pos} (hc : X.calm = true) (hs : es.all noStar = true) (hl : es.length = ps.length) (h : PGs X es (gSs X.K H0 ps)) : PG X (.Tuple es k pos) (gS X.K H0 (.tp ps)) := by
  obtain ⟨h1, h2⟩ := assignEach_all (env := X.env) hs
  refine PG.imp (pg_tup (n := es.length) hc h h1 h2) fun v σ H Q ⟨F, m, d, ρ, ρ', sb, rd, re, hb, q⟩ => ?_
  cases d with
  | tup ds =>
    simp only [bindS] at hb
    simp only [Rep] at rd
    obtain ⟨a, xs, rfl, hq, hz, rl⟩ := rd
    exact ⟨a, xs, rfl, SqT.sub sb hq, by rw [← rl.length, hl]; exact bindSs_count _ _ _ _ hb, F, m, ds, ρ, ρ', sb, rl, re, hb, q⟩
  | _ => simp only [bindS] at hb; cases hb
theorem stg_ok {ok : Str → Option Nat} (hN : X.N.Nodup) (hc : X.calm = true) (h : ∀ x i, ok x = some i → StOk X x i) : ∀ (n : Nat) (e : Expr) (p : Pt), tgt ok n e = some p → PG X e (gS X.K H0 p)
  | 0, e, p, q => by cases q
  | n + 1, e, p, q => by
    unfold tgt at q
    split at q
    · cases q
    · rename_i n' x pos hn
      cases hn
      cases e1 : ok x with
      | none => rw [e1] at q; cases q
      | some i => rw [e1] at q; cases q; exact sgNm hN (h x i e1)
    · rename_i n' es k pos hn
      cases hn
      split at q
      · rename_i hs
        cases e1 : es.mapM (tgt ok n) with
        | none => rw [e1] at q; cases q
        | some ps =>
          rw [e1] at q; cases q
          have key : ∀ (es : List Expr) (ps : List Pt), es.all noStar = true → es.mapM (tgt ok n) = some ps → es.length = ps.length ∧ PGs X es (gSs X.K H0 ps) := by
            intro es
            induction es with
            | nil => intro ps _ e; cases e; exact ⟨rfl, sgsNil⟩
            | cons e es ih =>
              intro ps hs e1
              simp only [List.all_cons, Bool.and_eq_true] at hs
              rw [List.mapM_cons] at e1
              cases e2 : tgt ok n e with
              | none => rw [e2] at e1; cases e1
              | some p =>
                rw [e2] at e1
                cases e3 : es.mapM (tgt ok n) with
                | none => rw [e3] at e1; cases e1
                | some qs =>
                  rw [e3] at e1; cases e1
                  obtain ⟨l, g⟩ := ih qs hs.2 e3
                  exact ⟨by simp [l], sgsCons hs.1 (stg_ok hN hc h n e p e2) g⟩
          obtain ⟨l, g⟩ := key es ps hs e1
          exact sgTp hc hs l g
      · cases q
    · cases q
end
def locOk (N : List Str) (sc : Scope) (x : Str) : Option Nat := if locB sc x then slot? N x else none
theorem loc_st {pg : Pg} {N : List Str} {sc : Scope} {X : Cx} {ca : Ca} {lev : Nat} {E : XK} (C : CtxS X sc N pg ca lev E) {x : Str} {i : Nat} (h : locOk N sc x = some i) : StOk X x i := by
  unfold locOk at h
  split at h
  · rename_i hl
    exact ⟨by rw [C.c.names]; exact slot_ok h, by rw [C.c.sc]; exact locB_ok hl, .inl (C.fn x)⟩
  · cases h

/-! ### for -/
def forL (p : Pt) (body : SEn → Cells → R Fl) : List D → SEn → Cells → R Fl
  | [], ρ, S => .ok (.nx ρ) S
  | d :: ds, ρ, S => match bindS p d ρ with
    | none => .no
    | some ρ1 => (body ρ1 S).bind fun fl S => match fl with
      | .nx ρ2 => forL p body ds ρ2 S
      | .ct ρ2 => forL p body ds ρ2 S
      | .bk ρ2 => .ok (.nx ρ2) S
      | .rt b => .ok (.rt b) S
def exI (ms : List Nat) (it : SI) (ca : Ca) (ρ : SEn) (S : Cells) : R (List D × SEn) := (it ca (view ms ρ) S).bind fun ds S => .ok (ds, if ms.any (ownAt ρ) then give ms ρ else ρ) S
def sFor (ms : List Nat) (it : SI) (p : Pt) (body : SS) : SS := fun ca ρ S => (exI ms it ca ρ S).bind fun r S => forL p (body ca) r.1 r.2 S
section
variable {pg : Pg} {N : List Str} {sc : Scope}
theorem stI {W : WX} {K : PySem.W.Frag} {F0 H0 F H : Hp} {m0 m : List Addr} {S : Cells} {ρ : SEn} {σ : St} {ms : List Nat} {it : SI} {ca : Ca} {Q : It → Hp → Prop} (g : Gr K F0 H0 m0 F H m S) (s : SEnv K H0 F H m ρ σ)
    (h : Post K W σ F0 H0 m0 (exI ms it ca ρ S) fun r _ F' H' m' => SEnv K H0 F' H' m' r.2 σ → ∀ J, IsIt K J F' m' r.1 → Q J H') : tI K W (it ca) σ H Q := by
  have G0 := frzM_gr (ms := ms) g s
  refine ⟨view ms ρ, S, _, m, G0.w, s.view, ?_⟩
  unfold exI at h
  cases e : it ca (view ms ρ) S with
  | no => rw [e] at h; exact h
  | exn c d S' => rw [e] at h; exact Wish.gr G0 h
  | ok ds S' =>
    rw [e] at h
    intro F' H' m' g' J hJ
    have P : Post K W σ F0 H0 m0 (.ok (ds, if ms.any (ownAt ρ) then give ms ρ else ρ) S') fun r _ F' H' m' => SEnv K H0 F' H' m' r.2 σ → ∀ J, IsIt K J F' m' r.1 → Q J H' := h
    by_cases hm : ms.any (EV.ownAt ρ) = true
    · rw [if_pos hm] at P
      exact P F' H' m' (G0.trans g') (s.given g') J hJ
    · rw [if_neg hm] at P
      have eps : ownPs ms ρ σ = [] := by
        cases hq : ownPs ms ρ σ with
        | nil => rfl
        | cons p ps =>
          obtain ⟨i, d, h1, h2, _⟩ := mem_ownPs (ms := ms) (ρ := ρ) (σ := σ) (p := p) (by rw [hq]; exact List.mem_cons_self)
          exact absurd (List.any_eq_true.mpr ⟨i, h1, by unfold EV.ownAt; rw [h2]⟩) hm
      have K1 := s.kept g'
      have e2 : thaw F' (ownPs ms ρ σ) = F' := by funext a; unfold thaw; rw [eps]; simp
      rw [e2] at K1
      exact P F' H' m' (G0.trans g') K1 J hJ
/-- a later base: what is frozen by now -/
def rb (H0 F : Hp) : Hp := fun a => match F a with
  | some o => some o
  | none => H0 a
theorem rb_none {H0 F : Hp} {a : Addr} (h : rb H0 F a = none) : H0 a = none ∧ F a = none := by
  unfold rb at h
  split at h
  · cases h
  · rename_i e
    exact ⟨h, e⟩
theorem rb_of {H0 F : Hp} {a : Addr} (h : F a = none) : rb H0 F a = H0 a := by
  unfold rb
  rw [h]
section
variable {K : PySem.W.Frag} {E : XK} {F0 H0 F1 H1 F' H' : Hp} {m0 m1 m' : List Addr} {S1 S' : Cells} {ρ : SEn} {σ : St}
theorem Ext.mem {m m' : List Addr} {a : Addr} (e : Ext m m') (h : a ∈ m) : a ∈ m' := by
  obtain ⟨i, hi⟩ := List.mem_iff_getElem?.mp h
  exact List.mem_of_getElem? (e i a hi)
theorem Gr.rebase (g : Gr K F0 H0 m0 F1 H1 m1 S1) : Gr K F1 (rb H0 F1) m1 F1 H1 m1 S1 :=
  ⟨g.w, Sub.refl, Ext.refl, fun a o h1 h2 h3 => by
    rw [rb_of h2] at h1
    refine g.frm a o h1 ?_ fun hm => h3 (g.ext.mem hm)
    cases e : F0 a with
    | none => rfl
    | some u => rw [g.up a u e] at h2; cases h2⟩
theorem Gr.unbase (g : Gr K F0 H0 m0 F1 H1 m1 S1) (g' : Gr K F1 (rb H0 F1) m1 F' H' m' S') : Gr K F0 H0 m0 F' H' m' S' :=
  ⟨g'.w, g.up.trans g'.up, g.ext.trans g'.ext, fun a o h1 h2 h3 => by
    obtain ⟨q1, q2, q3⟩ := g.frm a o h1 h2 h3
    exact g'.frm a o (by rw [rb_of q2]; exact h1) q2 q3⟩
theorem RepB.rebase {b : B} {v : V} (h : RepB K H0 F' H' m' b v) (hf : ∀ p, F' p = none → F1 p = none) : RepB K (rb H0 F1) F' H' m' b v := by
  obtain ⟨d, o⟩ := b
  cases o with
  | false => exact h
  | true =>
    obtain ⟨p, xs, ds, e1, e2, z1, z2, z3, z⟩ := h
    exact ⟨p, xs, ds, e1, e2, by rw [rb_of (hf p z3)]; exact z1, z2, z3, z⟩
theorem RepB.unbase {b : B} {v : V} (h : RepB K (rb H0 F1) F' H' m' b v) : RepB K H0 F' H' m' b v := by
  obtain ⟨d, o⟩ := b
  cases o with
  | false => exact h
  | true =>
    obtain ⟨p, xs, ds, e1, e2, z1, z⟩ := h
    exact ⟨p, xs, ds, e1, e2, (rb_none z1).1, z⟩
theorem SEnv.rebase (s : SEnv K H0 F' H' m' ρ σ) (hf : ∀ p, F' p = none → F1 p = none) : SEnv K (rb H0 F1) F' H' m' ρ σ :=
  ⟨s.len, fun i b h => by
    obtain ⟨v, h1, h2⟩ := s.get i b h
    exact ⟨v, h1, h2.rebase hf⟩, s.dis⟩
theorem SEnv.unbase (s : SEnv K (rb H0 F1) F' H' m' ρ σ) : SEnv K H0 F' H' m' ρ σ :=
  ⟨s.len, fun i b h => by
    obtain ⟨v, h1, h2⟩ := s.get i b h
    exact ⟨v, h1, h2.unbase⟩, s.dis⟩
theorem PostS.rebase {r : R Fl} {Dn : Ends} (g : Gr K F0 H0 m0 F1 H1 m1 S1) (h : PostS K E F0 H0 m0 r Dn) : PostS K E F1 (rb H0 F1) m1 r Dn := by
  cases r with
  | no => exact h
  | exn c d S => exact fun dx x F' H' m' g' h0 h1 h2 h3 h4 => h dx x F' H' m' (g.unbase g') (rb_none h0).1 h1 h2 h3 h4
  | ok fl S =>
    cases fl with
    | nx ρ => exact fun σ F' H' m' g' s' => h σ F' H' m' (g.unbase g') s'.unbase
    | bk ρ => exact fun σ F' H' m' g' s' => h σ F' H' m' (g.unbase g') s'.unbase
    | ct ρ => exact fun σ F' H' m' g' s' => h σ F' H' m' (g.unbase g') s'.unbase
    | rt b => exact fun v F' H' m' g' s' => h v F' H' m' (g.unbase g') s'.unbase
end
theorem Gr.noneF {K : PySem.W.Frag} {F0 H0 F1 H1 : Hp} {m0 m1 : List Addr} {S1 : Cells} {p : Addr} (g : Gr K F0 H0 m0 F1 H1 m1 S1) (h : F1 p = none) : F0 p = none := by
  cases e : F0 p with
  | none => rfl
  | some o => rw [g.up p o e] at h; cases h
def tSx (K : PySem.W.Frag) (E : XK) (f : SEn → Cells → R Fl) : TS := fun Dn σ H => ∃ F0 H0 m0, tS K E F0 H0 m0 f Dn σ H
def gSx (K : PySem.W.Frag) (p : Pt) : TG := fun v σ H Q => ∃ H0, gS K H0 p v σ H Q
theorem SEnv.gr {K : PySem.W.Frag} {H0 F H F' H' : Hp} {m m' : List Addr} {S' : Cells} {ρ : SEn} {σ : St} (s : SEnv K H0 F H m ρ σ) (g3 : Gr K F H m F' H' m' S') : SEnv K H0 F' H' m' ρ σ := by
  refine ⟨s.len, fun j b hj => ?_, s.dis⟩
  obtain ⟨v, h1, h2⟩ := s.get j b hj
  refine ⟨v, h1, ?_⟩
  obtain ⟨d, o⟩ := b
  cases o with
  | false => exact Rep.gr g3 h2
  | true =>
    obtain ⟨q, xs, es, e1, e2, z1, z2, z3, z4, z5, z6⟩ := h2
    obtain ⟨y1, y2, y3⟩ := g3.frm q _ z2 z3 z4
    exact ⟨q, xs, es, e1, e2, z1, y1, y2, y3, z5, z6.gr g3⟩
/-- the turns of a for -/
theorem for_core {K : PySem.W.Frag} {E : XK} {F0 H0 : Hp} {m0 : List Addr} {J : It} {p : Pt} {body : SEn → Cells → R Fl} {Dn : Ends} {ds : List D} {F1 H1 : Hp} {m1 : List Addr} {S1 : Cells} {ρ : SEn} {σ : St} (g1 : Gr K F0 H0 m0 F1 H1 m1 S1) (s1 : SEnv K H0 F1 H1 m1 ρ σ)
    (itS : IsIt K J F1 m1 ds) (h : PostS K E F0 H0 m0 (forL p body ds ρ S1) Dn) :
    ∃ Wi : Nat → Nat → St → Hp → Prop, (∃ k, Wi 0 k σ H1) ∧ ∀ i k σ H, Wi i k σ H →
      (J.stop i H ∧ Dn.nx σ H) ∨ (J.go i H ∧ ∃ Nn : St → Hp → Prop, (∀ σ' H', Nn σ' H' → ∃ k', k' < k ∧ Wi (i + 1) k' σ' H') ∧ ∀ x H', J.yld i H x H' → gSx K p x σ H' fun σ2 H2 => tSx K E body { Dn with nx := Nn, ct := Nn, bk := Dn.nx } σ2 H2) := by
  have hB := PostS.rebase g1 h
  refine ⟨fun i k σ H => k = ds.length - i ∧ i ≤ ds.length ∧ ∃ F2 m2 S2 ρ2, Gr K F1 (rb H0 F1) m1 F2 H m2 S2 ∧ SEnv K (rb H0 F1) F2 H m2 ρ2 σ ∧ PostS K E F1 (rb H0 F1) m1 (forL p body (ds.drop i) ρ2 S2) Dn,
    ⟨ds.length, rfl, Nat.zero_le _, F1, m1, S1, ρ, g1.rebase, s1.rebase fun _ q => q, hB⟩, ?_⟩
  rintro i k σ H ⟨rfl, hi, F2, m2, S2, ρ2, g, s, P⟩
  obtain ⟨i1, i2, i3⟩ := itS.2 F2 H m2 S2 g.lt
  by_cases hlt : i < ds.length
  · refine .inr ⟨i1 i hlt, _, fun σ' H' z => ⟨ds.length - (i + 1), by omega, z⟩, fun x H' hy => ?_⟩
    have ed : ds.drop i = ds[i] :: ds.drop (i + 1) := List.drop_eq_getElem_cons hlt
    rw [ed] at P
    simp only [forL] at P
    obtain ⟨F3, g3, r3⟩ := i3 i x H' ds[i] (by simp) hy
    cases eb : bindS p ds[i] ρ2 with
    | none => rw [eb] at P; exact P.elim
    | some ρ' =>
      rw [eb] at P
      dsimp only at P
      have G3 := g.trans g3
      refine ⟨rb H0 F1, F3, m2, ds[i], ρ2, ρ', g3.w.sub, r3, s.gr g3, eb, fun σ2 s2 => ⟨F1, rb H0 F1, m1, ρ', S2, F3, m2, G3, s2, ?_⟩⟩
      cases e4 : body ρ' S2 with
      | no => rw [e4] at P; exact P
      | exn c d S4 => rw [e4] at P; exact P
      | ok fl S4 =>
        rw [e4] at P
        cases fl with
        | nx ρ4 => exact fun σ4 F4 H4 m4 g4 s4 => ⟨rfl, hlt, F4, m4, S4, ρ4, g4, s4, P⟩
        | ct ρ4 => exact fun σ4 F4 H4 m4 g4 s4 => ⟨rfl, hlt, F4, m4, S4, ρ4, g4, s4, P⟩
        | bk ρ4 => exact P
        | rt b => exact P
  · have e : i = ds.length := by omega
    subst e
    rw [List.drop_length] at P
    exact .inl ⟨i2, P σ F2 H m2 g s⟩
theorem okFor {tg iter : Expr} {body : List Stmt} {ms : List Nat} {it : SI} {p : Pt} {f : SS} {n : Nat} {pos : Pos} (hs : notSet iter = true) (hi : OkI pg N sc tg iter it) (hg : tgt (locOk N sc) n tg = some p) (hb : OkSs pg N sc body f) : OkS pg N sc (.For tg iter body [] pos) (sFor ms it p f) := fun X ca lev E F0 H0 m0 C => by
  have PB : PSs X body (tSx X.K E (f ca)) := ⟨fun pins s σ H Dn I ⟨F0, H0, m0, q⟩ => (hb X ca lev E F0 H0 m0 C).run pins s σ H Dn I q⟩
  have PT' : PG X tg (gSx X.K p) := ⟨fun pins s σ H v u Q I rv ⟨H0, q⟩ => (stg_ok (H0 := H0) C.c.nd C.c.calm (fun x i h => loc_st C h) n tg p hg).run pins s σ H v u Q I rv q⟩
  refine PS.imp (ps_for C.own C.c.calm (hi X ca lev _ C.c) PT' PB (notSet_ok hs)) fun Dn σ H ⟨ρ, S, F, m, g, s, q⟩ => ?_
  exact stI g s (Post.mono (postS_ex q) fun r S1 F1 H1 m1 e1 g1 q1 s1 J hJ => for_core g1 s1 hJ q1)
end
end EV

namespace EV
open PySem PySem.Spec PyProof.Rows L2

theorem noStar_all {pos : Pos} {env : Env} : ∀ {es : List Expr}, es.all noStar = true → (backTo pos (starEach es env)).all (fun x => !x.1) = true
  | [], _ => rfl
  | e :: es, h => by
    simp only [List.all_cons, Bool.and_eq_true] at h
    rw [starEach_cons h.1]
    show (!false && (backTo pos (starEach es env)).all (fun x => !x.1)) = true
    rw [noStar_all h.2]; rfl
theorem few_ok {pos : Pos} {env : Env} {e : Expr} {es : List Expr} (h : (e :: es).all noStar = true) (hl : es.length < 20) :
    ((backTo pos (starEach (e :: es) env)).all (fun x => !x.1) && (backToKw pos (keywordEach [] env)).all (fun x => x.1.isSome)
      && decide ((e :: es).length + ([] : List Keyword).length + (if ([] : List Keyword).isEmpty then 0 else 1) < 30)) = true := by
  rw [noStar_all h]
  simp only [Bool.true_and, Bool.and_eq_true, decide_eq_true_eq]
  refine ⟨rfl, ?_⟩
  simp
  omega
def notCallE : Expr → Bool
  | .Call .. => false
  | _ => true
theorem abase {o : Expr} {attr : Str} {env : Env} {w : Sem Value} (h : notCallE o = true) : attributeBase o attr env w = w := by
  cases o <;> first | rfl | cases h

section
variable {K : PySem.W.Frag} {H0 F H : Hp} {m : List Addr} {ρ : SEn} {σ : St}
/-- an own list at slot k -/
theorem SEnv.own (s : SEnv K H0 F H m ρ σ) {k : Nat} {ds : List D} (h : ρ[k]? = some (some (.lst ds, true))) : ∃ p xs, σ[k]? = some (some (.ref p)) ∧ H0 p = none ∧ H p = some (.lst xs) ∧ F p = none ∧ p ∉ m ∧ xs.length ≤ sizeLine ∧ RepL K F m ds xs := by
  obtain ⟨v, h1, p, xs, ds', e1, e2, r⟩ := s.get k _ h
  have e1' : D.lst ds = .lst ds' := e1
  cases e1'
  subst e2
  exact ⟨p, xs, h1, r⟩
/-- an own list is changed -/
theorem SEnv.write (s : SEnv K H0 F H m ρ σ) {k : Nat} {ds es : List D} {p : Addr} {ys : List V} (h : ρ[k]? = some (some (.lst ds, true))) (hp : σ[k]? = some (some (.ref p))) (hz : ys.length ≤ sizeLine) (r : RepL K F m es ys) :
    SEnv K H0 F (upd H p (.lst ys)) m (ρ.set k (some (.lst es, true))) σ := by
  obtain ⟨p', xs, q1, q2, q3, q4, q5, q6, q7⟩ := s.own h
  rw [hp] at q1; cases q1
  have hk : k < ρ.length := (List.getElem?_eq_some_iff.mp h).1
  refine ⟨by simp [s.len], fun i b hi => ?_, fun i j a b q hij h1 h2 h3 h4 => ?_⟩
  · by_cases hik : k = i
    · subst hik
      rw [List.getElem?_set_self hk] at hi
      cases hi
      exact ⟨.ref p, hp, p, ys, es, rfl, rfl, q2, upd_same, q4, q5, hz, r⟩
    · rw [List.getElem?_set_ne hik] at hi
      obtain ⟨v, y1, y2⟩ := s.get i b hi
      refine ⟨v, y1, ?_⟩
      obtain ⟨d, o⟩ := b
      cases o with
      | false => exact y2
      | true =>
        obtain ⟨p2, xs2, ds2, e1, e2, z1, z2, z⟩ := y2
        subst e2
        have hne : p2 ≠ p := fun e => s.dis k i _ _ p hik h hi hp (by rw [← e]; exact y1)
        exact ⟨p2, xs2, ds2, e1, rfl, z1, by rw [upd_ne hne]; exact z2, z⟩
  · have key : ∀ (i : Nat) (a : D), (ρ.set k (some (.lst es, true)))[i]? = some (some (a, true)) → ∃ a', ρ[i]? = some (some (a', true)) := fun i a hi => by
      by_cases hik : k = i
      · subst hik; exact ⟨_, h⟩
      · rw [List.getElem?_set_ne hik] at hi; exact ⟨a, hi⟩
    obtain ⟨a', h1'⟩ := key i a h1
    obtain ⟨b', h2'⟩ := key j b h2
    exact s.dis i j a' b' q hij h1' h2' h3 h4
end
/-- a result is frozen while slots stay -/
theorem freezeS {K : PySem.W.Frag} {F0 H0 F H : Hp} {m0 m : List Addr} {S : Cells} {ρ : SEn} {σ : St} {b : B} {v : V} (g : Gr K F0 H0 m0 F H m S) (s : SEnv K H0 F H m ρ σ) (r : RepB K H0 F H m b v) (ap : Apart ρ σ b v) :
    ∃ F2, Gr K F0 H0 m0 F2 H m S ∧ SEnv K H0 F2 H m ρ σ ∧ Rep K F2 m b.1 v ∧ Sub F F2 := by
  obtain ⟨F2, g2, sb, r2⟩ := freeze g r
  obtain ⟨d, o⟩ := b
  cases o with
  | false => exact ⟨F, g, s, r, Sub.refl⟩
  | true =>
    obtain ⟨p, xs, ds, e1, e2, z1, z2, z3, z4, z5, z6⟩ := r
    have e1' : d = .lst ds := e1
    subst e1' e2
    refine ⟨upd F p (.lst xs), ?_, ?_, ?_, sub_upd z3⟩
    · refine ⟨g.w.frz z2 z4 z3, g.up.trans (sub_upd z3), g.ext, fun a u q1 q2 q3 => ?_⟩
      obtain ⟨y1, y2, y3⟩ := g.frm a u q1 q2 q3
      exact ⟨y1, by rw [upd_ne (ne_of_none q1 z1)]; exact y2, y3⟩
    · refine ⟨s.len, fun i b hi => ?_, s.dis⟩
      obtain ⟨v, y1, y2⟩ := s.get i b hi
      refine ⟨v, y1, ?_⟩
      obtain ⟨d, o⟩ := b
      cases o with
      | false => exact Rep.up (sub_upd z3) Ext.refl _ _ y2
      | true =>
        obtain ⟨p2, xs2, ds2, e1, e2, w1, w2, w3, w4, w5, w6⟩ := y2
        subst e2
        have hne : p2 ≠ p := fun e => ap rfl i d hi (by rw [← e]; exact y1)
        exact ⟨p2, xs2, ds2, e1, rfl, w1, w2, by rw [upd_ne hne]; exact w3, w4, w5, w6.up (sub_upd z3) Ext.refl⟩
    · simp only [Rep]
      exact ⟨p, xs, rfl, upd_same, z5, z6.up (sub_upd z3) Ext.refl⟩
/-- an own list's change seen from the entry -/
theorem Gr.wr {K : PySem.W.Frag} {F0 H0 F H : Hp} {m0 m : List Addr} {S : Cells} {p : Addr} {o : HO} (g : Gr K F0 H0 m0 F H m S) (h0 : H0 p = none) (hF : F p = none) (hm : p ∉ m) : Gr K F0 H0 m0 F (upd H p o) m S := g.own h0 hF hm

section
variable {pg : Pg} {N : List Str} {sc : Scope}
/-- x.append(e), x one's own list at slot k -/
def sApp (k : Nat) (ms : List Nat) (f : SE) : SS := fun ca ρ S => match ρ[k]? with
  | some (some (.lst _, true)) => (ex1 ms f ca ρ S).bind fun r S => match r.2[k]? with
    | some (some (.lst ds, true)) => if ds.length < 16777216 then .ok (.nx (r.2.set k (some (.lst (ds ++ [r.1.1]), true)))) S else .no
    | _ => .no
  | _ => .no
def sExt (k : Nat) (ms : List Nat) (f : SE) : SS := fun ca ρ S => match ρ[k]? with
  | some (some (.lst _, true)) => (ex1 ms f ca ρ S).bind fun r S => match r.2[k]?, r.1.1 with
    | some (some (.lst ds, true)), .lst es => if ds.length + es.length ≤ 16777216 then .ok (.nx (r.2.set k (some (.lst (ds ++ es), true)))) S else .no
    | _, _ => .no
  | _ => .no
theorem own_var {K : PySem.W.Frag} {H0 F H : Hp} {m : List Addr} {ρ : SEn} {σ : St} {k : Nat} {ds : List D} {Q : VK} (s : SEnv K H0 F H m ρ σ) (h : ρ[k]? = some (some (.lst ds, true))) (q : ∀ p xs, σ[k]? = some (some (.ref p)) → H p = some (.lst xs) → Q (.ref p) H) : tVar k σ H Q := by
  obtain ⟨p, xs, h1, _, h3, _⟩ := s.own h
  exact ⟨.ref p, h1, q p xs h1 h3⟩
theorem okApp {x : Str} {k : Nat} {e : Expr} {ms : List Nat} {f : SE} {np apos cpos spos : Pos} (hi : slot? N x = some k) (hv : visB sc x = true) (hp : plainName x = true) (hl : (apos.endLine == cpos.line) = true) (hs : noStar e = true) (h : OkE pg N sc e f) :
    OkS pg N sc (.Expr (.Call (.Attribute (.Name x np) "append" apos) [e] [] cpos) spos) (sApp k ms f) := fun X ca lev E F0 H0 m0 C => by
  have hall : [e].all noStar = true := by simp [hs]
  have PX : PE X (.Name x np) (tVar k) := pe_var (by rw [C.c.names]; exact slot_ok hi) (by rw [C.c.sc]; exact visB_ok hv) (plain1 hp).1 (plain1 hp).2.1
  refine PS.imp (ps_expr (pe_bm PySem.F.plainAttrs_list PySem.F.slot_list_append PySem.F.type_list_append mt_append PX (pa_cons (h X ca lev _ C.c) pa_nil (starEach_cons hs)) (abase rfl) (few_ok hall (by simp)) hl (starEach_cons hs) rfl) rfl)
    fun Dn σ H ⟨ρ, S, F, m, g, s, q⟩ => ?_
  unfold sApp at q
  split at q
  · rename_i ds0 h0
    obtain ⟨p, xs, hp1, _, hp2, _⟩ := s.own h0
    refine ⟨.ref p, hp1, .inl ⟨rfl, _, SqL.of hp2⟩, ?_⟩
    refine stEx g s (Post.mono (postS_ex q) fun r S1 F1 H1 m1 e1 g1 q1 v s1 rv ap => ?_)
    split at q1
    · rename_i ds h1
      split at q1
      · rename_i hlt
        obtain ⟨F2, g2, s2, r2, sb⟩ := freezeS g1 s1 rv ap
        obtain ⟨p', xs', y1, y2, y3, y4, y5, y6, y7⟩ := s2.own h1
        rw [hp1] at y1; cases y1
        have hl7 := y7.length
        refine ⟨p, xs', v, rfl, rfl, y3, by rw [line24]; omega, ?_⟩
        exact q1 σ F2 _ m1 (g2.wr y2 y4 y5) (s2.write h1 hp1 (by rw [List.length_append, line24]; simp; omega) (y7.append (.one r2)))
      · exact q1.elim
    · exact q1.elim
  · exact q.elim
theorem okExt {x : Str} {k : Nat} {e : Expr} {ms : List Nat} {f : SE} {np apos cpos spos : Pos} (hi : slot? N x = some k) (hv : visB sc x = true) (hp : plainName x = true) (hl : (apos.endLine == cpos.line) = true) (hs : noStar e = true) (h : OkE pg N sc e f) :
    OkS pg N sc (.Expr (.Call (.Attribute (.Name x np) "extend" apos) [e] [] cpos) spos) (sExt k ms f) := fun X ca lev E F0 H0 m0 C => by
  have hall : [e].all noStar = true := by simp [hs]
  have PX : PE X (.Name x np) (tVar k) := pe_var (by rw [C.c.names]; exact slot_ok hi) (by rw [C.c.sc]; exact visB_ok hv) (plain1 hp).1 (plain1 hp).2.1
  refine PS.imp (ps_expr (pe_bm PySem.F.plainAttrs_list PySem.F.slot_list_extend PySem.F.type_list_extend mt_extend PX (pa_cons (h X ca lev _ C.c) pa_nil (starEach_cons hs)) (abase rfl) (few_ok hall (by simp)) hl (starEach_cons hs) rfl) rfl)
    fun Dn σ H ⟨ρ, S, F, m, g, s, q⟩ => ?_
  unfold sExt at q
  split at q
  · rename_i ds0 h0
    obtain ⟨p, xs, hp1, _, hp2, _⟩ := s.own h0
    refine ⟨.ref p, hp1, .inl ⟨rfl, _, SqL.of hp2⟩, ?_⟩
    refine stEx g s (Post.mono (postS_ex q) fun r S1 F1 H1 m1 e1 g1 q1 v s1 rv ap => ?_)
    obtain ⟨⟨d, o⟩, ρ1⟩ := r
    dsimp only at q1 s1 rv ap
    cases h1 : ρ1[k]? with
    | none => rw [h1] at q1; exact q1.elim
    | some b1 =>
      rw [h1] at q1
      split at q1
      · rename_i ds es hb
        cases hb
        split at q1
        · rename_i hlt
          obtain ⟨F2, g2, s2, r2, sb⟩ := freezeS g1 s1 rv ap
          obtain ⟨p', xs', y1, y2, y3, y4, y5, y6, y7⟩ := s2.own h1
          rw [hp1] at y1; cases y1
          have hl7 := y7.length
          simp only [Rep] at r2
          obtain ⟨b, zs, rfl, w1, w2, w3⟩ := r2
          have hl3 := w3.length
          refine ⟨p, b, xs', zs, rfl, rfl, y3, g2.w.sub _ _ w1, by rw [line24]; omega, ?_⟩
          exact q1 σ F2 _ m1 (g2.wr y2 y4 y5) (s2.write h1 hp1 (by rw [List.length_append, line24]; omega) (y7.append w3))
        · exact q1.elim
      · exact q1.elim
  · exact q.elim
end
end EV

namespace EV
open PySem PySem.Spec PyProof.Rows L2
section
variable {K : PySem.W.Frag} {F0 H0 F H : Hp} {m0 m : List Addr} {S : Cells} {ρ : SEn} {σ : St}
theorem ixN_lt {n : Nat} {i : Int} {j : Nat} (h : ixN n i = some j) : j < n := (ixN_seq h).2.1
theorem immL_set {d : D} (hd : imm d = true) : ∀ {ds : List D} (j : Nat), immL ds = true → immL (ds.set j d) = true
  | [], j, h => by simpa using h
  | e :: es, 0, h => by
    simp only [immL, Bool.and_eq_true] at h
    simp only [List.set_cons_zero, immL, hd, h.2, Bool.and_self]
  | e :: es, j + 1, h => by
    simp only [immL, Bool.and_eq_true] at h
    simp only [List.set_cons_succ, immL, h.1, immL_set hd j h.2, Bool.and_self]
/-- a cell's item is changed -/
theorem Gr.setCel {c : Nat} {a : Addr} {ds : List D} {xs : List V} {j : Nat} {d : D} {v : V} (g : Gr K F0 H0 m0 F H m S) (ha : m[c]? = some a) (hs : S[c]? = some ds) (hx : H a = some (.lst xs)) (r : Rep K F m d v) (hd : imm d = true) :
    Gr K F0 H0 m0 F (upd H a (.lst (xs.set j v))) m (S.set c (ds.set j d)) := by
  obtain ⟨q1, ys, q2, q3, q4⟩ := g.w.cel c a ds ha hs
  rw [hx] at q2; cases q2
  have hc : c < S.length := (List.getElem?_eq_some_iff.mp hs).1
  refine ⟨⟨fun b o e => ?_, by simp [g.w.len], g.w.nd, fun i b es h1 h2 => ?_, fun i es h => ?_⟩, g.up, g.ext, fun b o h1 h2 h3 => ?_⟩
  · have hne : b ≠ a := fun z => by rw [z, q1] at e; cases e
    rw [upd_ne hne]; exact g.w.sub b o e
  · by_cases hci : c = i
    · subst hci
      rw [ha] at h1; cases h1
      rw [List.getElem?_set_self hc] at h2
      cases h2
      exact ⟨q1, _, upd_same, by simpa using q3, q4.set r j⟩
    · rw [List.getElem?_set_ne hci] at h2
      obtain ⟨w1, zs, w2, w3⟩ := g.w.cel i b es h1 h2
      have hne : b ≠ a := fun z => by
        subst z
        exact hci (nodup_at g.w.nd ha h1)
      exact ⟨w1, zs, by rw [upd_ne hne]; exact w2, w3⟩
  · by_cases hci : c = i
    · subst hci
      rw [List.getElem?_set_self hc] at h
      cases h
      exact immL_set hd j (g.w.im c ds hs)
    · rw [List.getElem?_set_ne hci] at h
      exact g.w.im i es h
  · obtain ⟨y1, y2, y3⟩ := g.frm b o h1 h2 h3
    have hne : b ≠ a := fun z => y3 (z ▸ List.mem_of_getElem? ha)
    exact ⟨by rw [upd_ne hne]; exact y1, y2, y3⟩
where
  nodup_at {l : List Addr} (hn : l.Nodup) {i j : Nat} {a : Addr} (h1 : l[i]? = some a) (h2 : l[j]? = some a) : i = j := by
    obtain ⟨x1, e1⟩ := List.getElem?_eq_some_iff.mp h1
    obtain ⟨x2, e2⟩ := List.getElem?_eq_some_iff.mp h2
    exact (List.getElem_inj hn).mp (e1.trans e2.symm)
theorem SEnv.setCel {a : Addr} {o : HO} (s : SEnv K H0 F H m ρ σ) (ha : a ∈ m) : SEnv K H0 F (upd H a o) m ρ σ :=
  ⟨s.len, fun i b hi => by
    obtain ⟨v, y1, y2⟩ := s.get i b hi
    refine ⟨v, y1, ?_⟩
    obtain ⟨d, ow⟩ := b
    cases ow with
    | false => exact y2
    | true =>
      obtain ⟨p2, xs2, ds2, e1, e2, w1, w2, w3, w4, w5⟩ := y2
      have hne : p2 ≠ a := fun e => w4 (e ▸ ha)
      exact ⟨p2, xs2, ds2, e1, e2, w1, by rw [upd_ne hne]; exact w2, w3, w4, w5⟩, s.dis⟩
end
/-- x[i] = e, x a cell or one's own list at slot k -/
def sSetIx (k : Nat) (ms : List Nat) (f : SE) (ms2 : List Nat) (fi : SE) : SS := fun ca ρ S => (ex1 ms f ca ρ S).bind fun r S => match r.2[k]? with
  | some (some (.cel c, false)) => (ex1 ms2 fi ca r.2 S).bind fun ri S => match ri.1.1, S[c]? with
    | .int i, some ds => (match ixN ds.length i with
      | some j => if imm r.1.1 then .ok (.nx ri.2) (S.set c (ds.set j r.1.1)) else .no
      | none => .no)
    | _, _ => .no
  | some (some (.lst _, true)) => (ex1 ms2 fi ca r.2 S).bind fun ri S => match ri.1.1, ri.2[k]? with
    | .int i, some (some (.lst ds, true)) => (match ixN ds.length i with
      | some j => .ok (.nx (ri.2.set k (some (.lst (ds.set j r.1.1), true)))) S
      | none => .no)
    | _, _ => .no
  | _ => .no
section
variable {pg : Pg} {N : List Str} {sc : Scope}
theorem okSetIx {x : Str} {k : Nat} {e i : Expr} {ms ms2 : List Nat} {f fi : SE} {np tpos spos : Pos} (hk : slot? N x = some k) (hv : visB sc x = true) (hp : plainName x = true) (hi : notSlice i = true) (h : OkE pg N sc e f) (h2 : OkE pg N sc i fi) :
    OkS pg N sc (.Assign [.Subscript (.Name x np) i tpos] e spos) (sSetIx k ms f ms2 fi) := fun X ca lev E F0 H0 m0 C => by
  have PX : PE X (.Name x np) (tVar k) := pe_var (by rw [C.c.names]; exact slot_ok hk) (by rw [C.c.sc]; exact visB_ok hv) (plain1 hp).1 (plain1 hp).2.1
  refine PS.imp (ps_asg (h X ca lev _ C.c) (pg_sub PX (h2 X ca lev _ C.c) set_list (fun v => by cases i <;> first | rfl | cases hi)) (by cases e <;> rfl) (by cases e <;> rfl) rfl) fun Dn σ H ⟨ρ, S, F, m, g, s, q⟩ => ?_
  refine stEx g s (Post.mono (postS_ex q) fun r S1 F1 H1 m1 e1 g1 q1 v s1 rv ap => ?_)
  obtain ⟨F2, g2, s2, r2, sb⟩ := freezeS g1 s1 rv ap
  have gb := g2.rebase
  have sb2 := s2.rebase (F1 := F2) fun _ z => z
  split at q1
  · rename_i c hr
    obtain ⟨u, y1, y2⟩ := s2.get k _ hr
    have y2' : Rep X.K F2 m1 (.cel c) u := y2
    simp only [Rep] at y2'
    obtain ⟨a, ha, rfl⟩ := y2'
    refine ⟨.ref a, y1, ?_⟩
    refine stEx gb sb2 (Post.mono (postS_ex (PostS.rebase g2 q1)) fun ri S3 F3 H3 m3 e3 g3 q3 iv s3 ri3 ap3 => ?_)
    obtain ⟨⟨di, oi⟩, ρ3⟩ := ri
    dsimp only at q3 s3 ri3 ap3
    cases hs : S3[c]? with
    | none => rw [hs] at q3; cases di <;> exact q3.elim
    | some ds =>
      rw [hs] at q3
      cases di with
      | int i0 =>
        dsimp only at q3
        cases hj : ixN ds.length i0 with
        | none => rw [hj] at q3; exact q3.elim
        | some j =>
          rw [hj] at q3
          dsimp only at q3
          split at q3
          · rename_i hd
            have ha3 := g3.ext c a ha
            obtain ⟨w1, xs, w2, w3, w4⟩ := g3.w.cel c a ds ha3 hs
            have ei : iv = .int i0 := by
              cases oi with
              | false =>
                have z : Rep X.K F3 m3 (.int i0) iv := ri3
                simpa only [Rep] using z
              | true => obtain ⟨_, _, _, z, _⟩ := ri3; cases z
            refine ⟨a, xs, i0, j, rfl, ei, w2, by rw [← w4.length]; exact hj, ?_⟩
            exact q3 σ F3 _ m3 (g3.setCel ha3 hs w2 (r2.gr g3) hd) (s3.setCel (List.mem_of_getElem? ha3))
          · exact q3.elim
      | _ => exact q3.elim
  · rename_i ds0 hr
    obtain ⟨p, xs, y1, y3⟩ := s2.own hr
    refine ⟨.ref p, y1, ?_⟩
    refine stEx gb sb2 (Post.mono (postS_ex (PostS.rebase g2 q1)) fun ri S3 F3 H3 m3 e3 g3 q3 iv s3 ri3 ap3 => ?_)
    obtain ⟨⟨di, oi⟩, ρ3⟩ := ri
    dsimp only at q3 s3 ri3 ap3
    cases di with
    | int i0 =>
      cases hs : ρ3[k]? with
      | none => rw [hs] at q3; exact q3.elim
      | some b3 =>
        rw [hs] at q3
        cases b3 with
        | none => exact q3.elim
        | some bb =>
          obtain ⟨dd, oo⟩ := bb
          cases oo with
          | false => cases dd <;> exact q3.elim
          | true =>
            cases dd with
            | lst ds =>
              dsimp only at q3
              cases hj : ixN ds.length i0 with
              | none => rw [hj] at q3; exact q3.elim
              | some j =>
                rw [hj] at q3
                have ei : iv = .int i0 := by
                  cases oi with
                  | false =>
                    have z : Rep X.K F3 m3 (.int i0) iv := ri3
                    simpa only [Rep] using z
                  | true => obtain ⟨_, _, _, z, _⟩ := ri3; cases z
                obtain ⟨p', ys, z1, z2, z3, z4, z5, z6, z7⟩ := s3.own hs
                rw [y1] at z1; cases z1
                refine ⟨p, ys, i0, j, rfl, ei, z3, by rw [← z7.length]; exact hj, ?_⟩
                exact q3 σ F3 _ m3 (g3.wr z2 z4 z5) (s3.write hs y1 (by simpa using z6) (z7.set (r2.gr g3) j))
            | _ => exact q3.elim
    | _ => exact q3.elim
  · exact q1.elim
end
end EV

namespace EV
open PySem PySem.Spec PyProof.Rows L2

/-! ### name = a new list that is to be a cell -/
theorem ext_app {m : List Addr} {p : Addr} : Ext m (m ++ [p]) := fun i a e => by
  rw [List.getElem?_append_left (List.getElem?_eq_some_iff.mp e).1]; exact e
theorem Wd.cell {K : PySem.W.Frag} {F H : Hp} {m : List Addr} {S : Cells} {p : Addr} {xs : List V} {ds : List D} (w : Wd K F H m S) (hp : H p = some (.lst xs)) (hF : F p = none) (hm : p ∉ m) (hz : xs.length ≤ sizeLine) (r : RepL K F m ds xs) (hi : immL ds = true) :
    Wd K F H (m ++ [p]) (S ++ [ds]) := by
  have hl := w.len
  refine ⟨w.sub, by simp [hl], ?_, fun i a es h1 h2 => ?_, fun i es h => ?_⟩
  · rw [List.nodup_append]
    exact ⟨w.nd, by simp, fun a ha b hb e => by
      have : b = p := by simpa using hb
      exact hm (this ▸ e ▸ ha)⟩
  · by_cases hlt : i < m.length
    · rw [List.getElem?_append_left hlt] at h1
      rw [List.getElem?_append_left (by omega)] at h2
      obtain ⟨z1, ys, z2, z3, z4⟩ := w.cel i a es h1 h2
      exact ⟨z1, ys, z2, z3, z4.up Sub.refl ext_app⟩
    · have hi' := (List.getElem?_eq_some_iff.mp h1).1
      have e : i = m.length := by simp at hi'; omega
      subst e
      rw [List.getElem?_append_right (Nat.le_refl _)] at h1
      rw [List.getElem?_append_right (by omega)] at h2
      simp at h1
      rw [hl] at h2
      simp at h2
      subst h1 h2
      exact ⟨hF, xs, hp, hz, r.up Sub.refl ext_app⟩
  · by_cases hlt : i < S.length
    · rw [List.getElem?_append_left hlt] at h
      exact w.im i es h
    · have hi' := (List.getElem?_eq_some_iff.mp h).1
      have e : i = S.length := by simp at hi'; omega
      subst e
      rw [List.getElem?_append_right (Nat.le_refl _)] at h
      simp at h
      subst h
      exact hi
def sSetC (i : Nat) (ms : List Nat) (f : SE) : SS := fun ca ρ S => (ex1 ms f ca ρ S).bind fun r S => match r.1 with
  | (.lst ds, true) => if i < r.2.length && immL ds then .ok (.nx (r.2.set i (some (.cel S.length, false)))) (S ++ [ds]) else .no
  | _ => .no
section
variable {pg : Pg} {N : List Str} {sc : Scope}
theorem setC_fin {X : Cx} {E : XK} {F0 H0 : Hp} {m0 : List Addr} {ca : Ca} {i : Nat} {ms : List Nat} {f : SE} {Dn : Ends} {σ : St} {H : Hp} (h : tS X.K E F0 H0 m0 (sSetC i ms f ca) Dn σ H) : tAsg (tE X.K (fun c d _ H => E c d H) (f ca)) (gName i) Dn σ H := by
  obtain ⟨ρ, S, F, m, g, s, q⟩ := h
  refine stEx g s (Post.mono (postS_ex q) fun r S1 F1 H1 m1 e1 g1 q1 v s1 rv ap => ?_)
  obtain ⟨b, ρ1⟩ := r
  split at q1
  · rename_i ds hb
    have hb' : b = (.lst ds, true) := hb
    subst hb'
    split at q1
    · rename_i hc
      simp only [Bool.and_eq_true, decide_eq_true_eq] at hc
      obtain ⟨p, xs, ds', e1', e2, z1, z2, z3, z4, z5, z6⟩ := rv
      cases e1'
      subst e2
      have G : Gr X.K F0 H0 m0 F1 H1 (m1 ++ [p]) (S1 ++ [ds]) := ⟨g1.w.cell z2 z3 z4 z5 z6 hc.2, g1.up, g1.ext.trans ext_app, fun a o y1 y2 y3 => by
        obtain ⟨x1, x2, x3⟩ := g1.frm a o y1 y2 y3
        refine ⟨x1, x2, fun hm => ?_⟩
        rcases List.mem_append.mp hm with hm | hm
        · exact x3 hm
        · have : a = p := by simpa using hm
          rw [this, z1] at y1; cases y1⟩
      have S2 : SEnv X.K H0 F1 H1 (m1 ++ [p]) ρ1 σ := ⟨s1.len, fun j c hj => by
        obtain ⟨u, y1, y2⟩ := s1.get j c hj
        refine ⟨u, y1, ?_⟩
        obtain ⟨d, o⟩ := c
        cases o with
        | false => exact Rep.up Sub.refl ext_app _ _ y2
        | true =>
          obtain ⟨p2, xs2, ds2, e1, e2, w1, w2, w3, w4, w5, w6⟩ := y2
          subst e2
          have hne : p2 ≠ p := fun e => ap rfl j d hj (by rw [← e]; exact y1)
          exact ⟨p2, xs2, ds2, e1, rfl, w1, w2, w3, by
            intro hm
            rcases List.mem_append.mp hm with hm | hm
            · exact w4 hm
            · exact hne (by simpa using hm), w5, w6.up Sub.refl ext_app⟩, s1.dis⟩
      refine q1 _ F1 H1 (m1 ++ [p]) G (S2.set (b := (.cel S1.length, false)) (v := .ref p) ?_ (fun z => by cases z))
      show Rep _ _ _ _ _
      simp only [Rep]
      exact ⟨p, by rw [← g1.w.len]; simp, rfl⟩
    · exact q1.elim
  · exact q1.elim
theorem okSetC {x : Str} {i : Nat} {e : Expr} {ms : List Nat} {f : SE} {pos pos' : Pos} (hi : slot? N x = some i) (hx : locB sc x = true) (hn : notComp e = true) (h : OkE pg N sc e f) : OkS pg N sc (.Assign [.Name x pos'] e pos) (sSetC i ms f) := fun X ca lev E F0 H0 m0 C =>
  PS.imp (ps_set C.c.nd (by rw [C.c.names]; exact slot_ok hi) (by rw [C.c.sc]; exact locB_ok hx) (h X ca lev _ C.c) (notComp_sw hn) (.inl (C.fn x))) fun Dn σ H h => setC_fin h
end
end EV

namespace EV
open PySem PySem.Spec PyProof.Rows L2

/-! ### errors: made, asked, read -/
section
variable {X : Cx} {x : Str} {C : Addr} {e : Expr} {es : List Expr} {t : TA} {r : List V → Hp → VK → Prop} {p pos : Pos}
theorem pe_callC (hc : CallR X (.ref C) r) (hg : Gl X x) (hm : X.mg x = some (.ref C)) (hk : PySem.W.keepIn X.K (.ref C) = true) (ha : PA X (e :: es) t) (hdb : (x == ("__debug__" : Str)) = false)
    (he : starEach (e :: es) X.env = (false, eval e X.env) :: starEach es X.env) (hpl : (backTo pos (starEach es X.env)).any (·.1) = false) : PE X (.Call (.Name x p) (e :: es) [] pos) (tCB r t) := by
  refine ⟨fun pins s σ H Q I h => wpAny_Call_Name_kw (ld_glob I hg hm ?_ hdb)⟩
  refine PySem.W.callWith_K (h₀ := X.base) I.ok.mod.kin hk (thn (ha.run pos pins s σ H _ I h) fun us s1 ⟨vs, H1, I1, r1, q1⟩ => ⟨I1.kIn, ?_⟩) he hpl
  exact hc pins s1 σ H1 vs us Q I1 r1 q1
end
theorem Outs.exc {K : PySem.W.Frag} {F H : Hp} {m : List Addr} {S : Cells} {Q : VK} {x : Str} {d : D} {y : V} (w : Wd K F H m S) (o : Outs K F H m S (.exc x d, false) Q) (r : Rep K F m d y) (a dx : Addr) (ha : H a = none) (hd : H dx = none) (hne : dx ≠ a) :
    Q (.ref a) (upd (upd H dx (exd dx [(("value" : Str), y)])) a (exo a (He.ga K x) (some dx))) := by
  have g1 := Gr.layF (o := exd dx [(("value" : Str), y)]) w hd
  have ha1 : upd H dx (exd dx [(("value" : Str), y)]) a = none := by rw [upd_ne (Ne.symm hne)]; exact ha
  have g2 := Gr.layF (o := exo a (He.ga K x) (some dx)) g1.w ha1
  refine o (.ref a) _ _ m (g1.trans g2) ?_
  show Rep K _ m (.exc x d) _
  simp only [Rep]
  exact ⟨a, dx, y, rfl, upd_same, by rw [upd_ne hne, upd_same], (r.gr g1).gr g2⟩
def gExc (x : Str) (_ : Cells) : List D → Option B
  | [d] => some (.exc x d, false)
  | _ => none
/-- isinstance with an own error's class -/
def gIsE (xs : List Str) (c : Str) (_ : Cells) : D → Option B
  | .exc c' _ => if xs.contains c' then bB (subE c' c) else none
  | _ => none
def gIsVE (xs : List Str) (_ : Cells) : D → Option B
  | .exc c' _ => if xs.contains c' then bB true else none
  | _ => none
def gVal (xs : List Str) (_ : Cells) : D → Option B
  | .exc c' d => if xs.contains c' then some (d, false) else none
  | _ => none
section
variable {pg : Pg} {N : List Str} {sc : Scope}
theorem okExc {x : Str} {e : Expr} {p pos : Pos} {f : SE} (hx : pg.excs.contains x = true) (hg : glB sc x = true) (hp : plainName x = true) (hs : noStar e = true) (h : OkE pg N sc e f) : OkE pg N sc (.Call (.Name x p) [e] [] pos) (cOpn (gExc x) (aCons f aNil)) := fun X ca lev W C => by
  have T := C.lib.exc x (List.contains_iff_mem.mp hx)
  refine PE.imp (pe_callC (EVX.call_err (C.room.rm.mono (Nat.zero_le _)) T) (C.gl hg) T.mg T.keep (okCons hs h okNil X ca lev W C) (plain1 hp).1 (starEach_cons hs) rfl) fun σ H Q q => ?_
  obtain ⟨ρ, S, F, m, w, r, q⟩ := opn_pre q
  refine ⟨ρ, S, F, m, w, r, Post.mono q fun ds S1 F1 H1 m1 e1 g1 q1 vs rvs => ?_⟩
  obtain ⟨F2, m2, S2, es2, b, w2, r2, e, o⟩ := q1 vs rvs
  unfold gExc at e
  split at e
  · cases e
    obtain ⟨y, rfl, ry⟩ := r2.one'
    exact ⟨y, rfl, fun a dx ha hd hne => Outs.exc w2 o ry a dx ha hd hne⟩
  · cases e
theorem op1_pre {X : Cx} {W : WX} {ca : Ca} {g : Cells → D → Option B} {fa : SE} {σ : St} {H : Hp} {Q : VK} (h : tE X.K W (cOp1 g fa ca) σ H Q) : tE X.K W (fa ca) σ H fun x H1 => rD1 X.K g x H1 Q := by
  obtain ⟨ρ, S, F, m, w, r, q⟩ := h
  refine tE.ofF w r (Post.mono (Post.bind q) fun b S1 F1 H1 m1 e1 g1 q1 x rx => ?_)
  obtain ⟨bb, e3, o⟩ := post_lift (fun p h0 => g1.fresh h0) q1
  exact ⟨F1, m1, S1, b.1, bb, g1.w, rx, e3, o⟩
theorem okIsE {c : Str} {e : Expr} {p p2 pos : Pos} {f : SE} (hc : pg.excs.contains c = true) (hg : glB sc "isinstance" = true) (hb : pg.blts.contains "isinstance" = true) (hgc : glB sc c = true) (hpc : plainName c = true) (hs : noStar e = true) (h : OkE pg N sc e f) :
    OkE pg N sc (.Call (.Name "isinstance" p) [e, .Name c p2] [] pos) (cOp1 (gIsE pg.excs c) f) := fun X ca lev W C => by
  have T := C.lib.exc c (List.contains_iff_mem.mp hc)
  refine PE.imp (pe_callB EVX.call_isX (C.gl hg) (C.lib.blt _ (List.contains_iff_mem.mp hb)) (by boot_by_name) (pa_cons (h X ca lev W C) (pa_cons (pe_glob (C.gl hgc) T.mg (show RelV (.ref (He.ga X.K c)) (.ref (He.ga X.K c)) from rfl) (plain1 hpc).1) pa_nil rfl) (starEach_cons hs)) (by decide) (by decide) (starEach_cons hs) rfl) fun σ H Q q => ?_
  have q := op1_pre q
  obtain ⟨ρ, S, F, m, w, r, q⟩ := q
  refine ⟨ρ, S, F, m, w, r, Post.mono q fun b S1 F1 H1 m1 e1 g1 q1 x rx => ?_⟩
  obtain ⟨F2, m2, S2, d, bb, w2, r2, e, o⟩ := q1 x rx
  unfold gIsE at e
  split at e
  · rename_i c' d'
    split at e
    · rename_i hc'
      cases e
      simp only [Rep] at r2
      obtain ⟨a, dx, y, rfl, h1, h2, h3⟩ := r2
      exact ⟨a, _, dx, _, _, _, _, rfl, w2.sub _ _ h1, w2.sub _ _ h2, ClsV.own _, C.lib.sub c' c (List.contains_iff_mem.mp hc') (List.contains_iff_mem.mp hc), ⟨_, _, c', rfl, C.lib.exc c' (List.contains_iff_mem.mp hc')⟩, o.val w2 (rep_bl _)⟩
    · cases e
  · cases e
theorem okVl {e : Expr} {pos : Pos} {f : SE} (hn : notCallE e = true) (h : OkE pg N sc e f) : OkE pg N sc (.Attribute e "value" pos) (cOp1 (gVal pg.excs) f) := fun X ca lev W C => by
  refine PE.imp (EVX.pe_vl (h X ca lev W C) (abase hn)) fun σ H Q q => ?_
  have q := op1_pre q
  obtain ⟨ρ, S, F, m, w, r, q⟩ := q
  refine ⟨ρ, S, F, m, w, r, Post.mono q fun b S1 F1 H1 m1 e1 g1 q1 x rx => ?_⟩
  obtain ⟨F2, m2, S2, d, bb, w2, r2, e, o⟩ := q1 x rx
  unfold gVal at e
  split at e
  · rename_i c' d'
    split at e
    · rename_i hc'
      cases e
      simp only [Rep] at r2
      obtain ⟨a, dx, y, rfl, h1, h2, h3⟩ := r2
      exact ⟨a, dx, y, _, _, c', rfl, C.lib.exc c' (List.contains_iff_mem.mp hc'), w2.sub _ _ h1, w2.sub _ _ h2, o.val w2 h3⟩
    · cases e
  · cases e
end
end EV

namespace EV
open PySem PySem.Spec PyProof.Rows L2

/-! ### ** and wide * -/
def nbits (n : Nat) : Nat := if n = 0 then 0 else n.log2 + 1
theorem nbits_lt (n : Nat) : n < 2 ^ nbits n := by
  unfold nbits
  split
  · subst_vars; decide
  · exact Nat.lt_log2_self
def powOk (i j : Int) : Bool := decide (0 ≤ j) && decide (nbits i.natAbs * j.toNat ≤ 134217728)
def CPowX (i j : Int) : Prop := 0 ≤ j ∧ (Builtin.Int.intBits i : Int) * j ≤ 2 ^ 27
theorem powOk_ok {i j : Int} (h : powOk i j = true) : CPowX i j := by
  unfold powOk at h
  simp only [Bool.and_eq_true, decide_eq_true_eq] at h
  refine ⟨h.1, ?_⟩
  have x := PyProof.Rows.intBits_le (nbits_lt i.natAbs)
  have hj : j = (j.toNat : Int) := by omega
  rw [hj, ← Int.natCast_mul]
  have : Builtin.Int.intBits i * j.toNat ≤ 134217728 := Nat.le_trans (Nat.mul_le_mul_right _ x) h.2
  have e : (2 : Int) ^ 27 = ((134217728 : Nat) : Int) := by decide
  rw [e]
  exact Int.ofNat_le.mpr this
def dPow := dInt powOk fun i j => i ^ j.toNat
section
variable {X : Cx}
theorem op_powX : OpR X (binaryOp .Pow) (rI CPowX fun i j => .int (i ^ j.toNat)) := opI fun _ _ _ _ _ _ _ hc q => pow_int hc.1 hc.2 q
theorem opPow : OpR X (binaryOp .Pow) (rD2 X.K dPow) := opInt op_powX fun i j h => powOk_ok h
def mulXOk (i j : Int) : Bool := decide (nbits i.natAbs + nbits j.natAbs ≤ 134217728)
theorem opMulX : OpR X (binaryOp .Mult) (rD2 X.K (dInt mulXOk fun i j => i * j)) := opInt op_mulX fun i j h => mulx_ok (nbits_lt _) (nbits_lt _) (of_decide_eq_true h)
end

/-! ### list(range(..)) -/
def gLR (_ : Cells) : D → Option B
  | .int j => if rngOk j && decide (j.toNat ≤ 16777216) then some (.lst (rangeD 0 j.toNat), true) else none
  | _ => none
def gLR2 (_ : Cells) : D → D → Option B
  | .int i, .int j => if rngOk i && rngOk j && decide ((j - i).toNat ≤ 16777216) then some (.lst (rangeD i (j - i).toNat), true) else none
  | _, _ => none
theorem repL_range {K : PySem.W.Frag} {F : Hp} {m : List Addr} (lo : Int) : ∀ (n : Nat) (f : Nat → Int), RepL K F m ((List.range n).map fun i => D.int (f i)) ((List.range n).map fun i => V.int (f i))
  | 0, _ => by simp only [List.range_zero, List.map_nil]; exact .nil
  | n + 1, f => by
    rw [List.range_succ, List.map_append, List.map_append]
    exact (repL_range lo n f).append (.one (rep_int _))
theorem tE.monoQ {K : PySem.W.Frag} {W : WX} {f : En → Cells → R B} {σ : St} {H : Hp} {Q Q' : VK} (h : tE K W f σ H Q) (k : ∀ v H', Q v H' → Q' v H') : tE K W f σ H Q' := by
  obtain ⟨ρ, S, F, m, w, r, q⟩ := h
  exact ⟨ρ, S, F, m, w, r, Post.mono q fun b S1 F1 H1 m1 e1 g1 q1 v rv => k v H1 (q1 v rv)⟩
section
variable {pg : Pg} {N : List Str} {sc : Scope}
theorem okListRg {a : Expr} {p p2 pos pos2 : Pos} {f : SE} (hg : glB sc "list" = true) (hb : pg.blts.contains "list" = true) (hg2 : glB sc "range" = true) (hb2 : pg.blts.contains "range" = true) (hs : noStar a = true) (h : OkE pg N sc a f) :
    OkE pg N sc (.Call (.Name "list" p) [.Call (.Name "range" p2) [a] [] pos2] [] pos) (cOp1 gLR f) := fun X ca lev W C => by
  refine PE.imp (pe_listRg C.calm (C.gl hg) (C.lib.blt _ (List.contains_iff_mem.mp hb)) (prg_1 (C.gl hg2) (C.lib.blt _ (List.contains_iff_mem.mp hb2)) (h X ca lev W C) (starEach_cons hs)) rfl) fun σ H Q q => ?_
  have q := op1_pre q
  obtain ⟨ρ, S, F, m, w, r, q⟩ := q
  refine ⟨ρ, S, F, m, w, r, Post.mono q fun b S1 F1 H1 m1 e1 g1 q1 x rx => ?_⟩
  obtain ⟨F2, m2, S2, d, bb, w2, r2, e, o⟩ := q1 x rx
  unfold gLR at e
  split at e
  · split at e
    · rename_i j hc
      cases e
      simp only [Rep] at r2
      subst r2
      simp only [Bool.and_eq_true, rngOk, decide_eq_true_eq] at hc
      refine ⟨j, rfl, ⟨by decide, by decide, by omega, by omega, by omega⟩, fun p hp => ?_⟩
      refine Outs.lst w2 o ?_ ?_ p hp
      · unfold rangeD rgV
        rw [Int.sub_zero]
        exact repL_range 0 _ _
      · rw [rgV_length, line24]; omega
    · cases e
  · cases e
theorem okListRg2 {a b : Expr} {p p2 pos pos2 : Pos} {f g : SE} (hg : glB sc "list" = true) (hb : pg.blts.contains "list" = true) (hg2 : glB sc "range" = true) (hb2 : pg.blts.contains "range" = true) (hs : noStar a = true) (hs2 : noStar b = true) (h : OkE pg N sc a f) (h2 : OkE pg N sc b g) :
    OkE pg N sc (.Call (.Name "list" p) [.Call (.Name "range" p2) [a, b] [] pos2] [] pos) (cOp2 gLR2 f g) := fun X ca lev W C => by
  refine PE.imp (pe_listRg C.calm (C.gl hg) (C.lib.blt _ (List.contains_iff_mem.mp hb)) (prg_2 (C.gl hg2) (C.lib.blt _ (List.contains_iff_mem.mp hb2)) (h X ca lev W C) (h2 X ca lev W C) (by rw [starEach_cons hs]) (starEach_cons hs2) (noStar_any (by simp [hs2]))) rfl) fun σ H Q q => ?_
  refine (op2_pre q).monoQ fun x H1 q1 => tE.monoQ q1 fun y H2 q2 => ?_
  obtain ⟨F, m, S, d, e, b, w, r1, r2, he, o⟩ := q2
  unfold gLR2 at he
  split at he
  · split at he
    · rename_i i j hc
      cases he
      simp only [Rep] at r1 r2
      subst r1 r2
      simp only [Bool.and_eq_true, rngOk, decide_eq_true_eq] at hc
      refine ⟨i, j, rfl, rfl, ⟨by omega, by omega, by omega, by omega, by omega⟩, fun p hp => ?_⟩
      refine Outs.lst w o ?_ ?_ p hp
      · exact repL_range i _ _
      · rw [rgV_length, line24]; omega
    · cases he
  · cases he
theorem okIsVE {e : Expr} {p p2 pos : Pos} {f : SE} (hg : glB sc "isinstance" = true) (hb : pg.blts.contains "isinstance" = true) (hgc : glB sc "ValueError" = true) (hbc : pg.blts.contains "ValueError" = true) (hs : noStar e = true) (h : OkE pg N sc e f) :
    OkE pg N sc (.Call (.Name "isinstance" p) [e, .Name "ValueError" p2] [] pos) (cOp1 (gIsVE pg.excs) f) := fun X ca lev W C => by
  refine PE.imp (pe_callB EVX.call_isX (C.gl hg) (C.lib.blt _ (List.contains_iff_mem.mp hb)) (by boot_by_name) (pa_cons (h X ca lev W C) (pa_cons (pe_bltn (v := .ty "ValueError") (C.gl hgc) (C.lib.blt _ (List.contains_iff_mem.mp hbc)) PyProof.Rows.Boot.«ValueError» rfl) pa_nil rfl) (starEach_cons hs)) (by decide) (by decide) (starEach_cons hs) rfl) fun σ H Q q => ?_
  have q := op1_pre q
  obtain ⟨ρ, S, F, m, w, r, q⟩ := q
  refine ⟨ρ, S, F, m, w, r, Post.mono q fun b S1 F1 H1 m1 e1 g1 q1 x rx => ?_⟩
  obtain ⟨F2, m2, S2, d, bb, w2, r2, e, o⟩ := q1 x rx
  unfold gIsVE at e
  split at e
  · rename_i c' d'
    split at e
    · rename_i hc'
      cases e
      simp only [Rep] at r2
      obtain ⟨a, dx, y, rfl, h1, h2, h3⟩ := r2
      exact ⟨a, _, dx, _, _, _, _, rfl, w2.sub _ _ h1, w2.sub _ _ h2, ClsV.ty _, C.lib.ve c' (List.contains_iff_mem.mp hc'), ⟨_, _, c', rfl, C.lib.exc c' (List.contains_iff_mem.mp hc')⟩, o.val w2 (rep_bl _)⟩
    · cases e
  · cases e
end

/-! ### repr -/
mutual
def toR : D → PyData
  | .bl b => .bool b
  | .int i => .int i
  | .str x => .str x
  | .tup ds => .tuple (toRL ds)
  | .lst ds => .list (toRL ds)
  | .dic ks vs => .dict ((toRL ks).zip (toRL vs))
  | _ => .none
def toRL : List D → List PyData
  | [] => []
  | d :: ds => toR d :: toRL ds
end
mutual
def rpl : D → Bool
  | .non => true
  | .bl _ => true
  | .int _ => true
  | .str _ => true
  | .tup ds => rplL ds
  | .lst ds => rplL ds
  | .dic _ vs => rplL vs
  | _ => false
def rplL : List D → Bool
  | [] => true
  | d :: ds => rpl d && rplL ds
end
def encK : Key → PyData
  | .inl i => .int i
  | .inr x => .str x
theorem toRL_keys {K : PySem.W.Frag} {F : Hp} {m : List Addr} : ∀ {ks : List D} {l : List (Key × V)}, RepL K F m ks (l.map fun q => kV q.1) → toRL ks = l.map fun q => encK q.1
  | [], l, h => by
    simp only [RepL] at h
    have : l = [] := by simpa using h
    subst this
    rfl
  | d :: ds, l, h => by
    simp only [RepL] at h
    obtain ⟨x, xs, e, r, q⟩ := h
    cases l with
    | nil => cases e
    | cons p l =>
      simp only [List.map_cons, List.cons.injEq] at e
      obtain ⟨e1, e2⟩ := e
      subst e2
      have ih := toRL_keys q
      simp only [toRL, List.map_cons, ih]
      congr 1
      obtain ⟨k, v⟩ := p
      subst e1
      cases k with
      | inl i =>
        cases d <;> simp only [Rep, kV] at r
        case int => cases r; rfl
        all_goals first | (cases r; done) | (obtain ⟨z, _⟩ := r; cases z; done) | (obtain ⟨_, _, z, _⟩ := r; cases z; done) | (obtain ⟨_, z, _⟩ := r; cases z; done) | (obtain ⟨_, _, _, z, _⟩ := r; cases z; done) | (obtain ⟨_, _, z⟩ := r; cases z; done)
      | inr i =>
        cases d <;> simp only [Rep, kV] at r
        case str => obtain ⟨z, _⟩ := r; cases z; rfl
        all_goals first | (cases r; done) | (obtain ⟨z, _⟩ := r; cases z; done) | (obtain ⟨_, _, z, _⟩ := r; cases z; done) | (obtain ⟨_, z, _⟩ := r; cases z; done) | (obtain ⟨_, _, _, z, _⟩ := r; cases z; done) | (obtain ⟨_, _, z⟩ := r; cases z; done)
theorem kv_vals {l : List (Key × V)} {ws : List (Key × Value)} (h : KV l ws) : Vals (l.map (·.2)) (ws.map (·.2)) := by
  unfold KV at h
  induction h with
  | nil => exact .nil
  | cons h t ih => exact .cons h.2 ih
theorem kv_enc {l : List (Key × V)} {ws : List (Key × Value)} (h : KV l ws) : (l.map fun q => encK q.1) = ws.map fun q => encK q.1 := by
  unfold KV at h
  induction h with
  | nil => rfl
  | cons h t ih => simp only [List.map_cons, ih, h.1]
section
variable {X : Cx} {pins : List (Addr × Obj)} {σ : St} {H F : Hp} {s : Shared} {m : List Addr}
theorem not_sys (I : Inv X pins σ H s) (hs : (X.K.lookup sysModules).isSome = true) {a : Addr} {o : HO} (h : H a = some o) : sysModules ≠ a := fun e => by
  obtain ⟨ob, q⟩ := Option.isSome_iff_exists.mp hs
  have := (I.bs _ _ (I.ok.mod.kin _ _ q)).2
  rw [e, h] at this
  cases this
mutual
theorem Rep.reads (I : Inv X pins σ H s) (hs : (X.K.lookup sysModules).isSome = true) (sb : Sub F H) : ∀ (d : D) (v : V) (u : Value), rpl d = true → Rep X.K F m d v → RelV v u → ∃ as, Reads s.heap u (toR d) as ∧ sysModules ∉ as
  | .non, _, _, _, h, r => by simp only [Rep] at h; subst h; cases r; exact ⟨_, Reads.none, by simp⟩
  | .bl b, _, _, _, h, r => by simp only [Rep] at h; subst h; cases r; exact ⟨_, Reads.bool b, by simp⟩
  | .int i, _, _, _, h, r => by simp only [Rep] at h; subst h; obtain ⟨t, rfl⟩ := r; exact ⟨_, Reads.int i t, by simp⟩
  | .str x, _, _, _, h, r => by simp only [Rep] at h; obtain ⟨rfl, _⟩ := h; obtain ⟨t, rfl⟩ := r; exact ⟨_, Reads.str x t, by simp⟩
  | .tup ds, _, _, p, h, r => by
    simp only [Rep] at h; simp only [rpl] at p; simp only [toR]
    obtain ⟨a, xs, rfl, h1, _, rl⟩ := h
    cases r
    obtain ⟨its, rv, ⟨o, ho, hc, n, hd⟩, _⟩ := I.tuple (SqT.sub sb h1)
    obtain ⟨as, hr, ns⟩ := RepL.reads I hs sb ds xs its p rl rv
    exact ⟨_, Reads.tuple ho hc hd hr, ns⟩
  | .lst ds, _, _, p, h, r => by
    simp only [Rep] at h; simp only [rpl] at p; simp only [toR]
    obtain ⟨a, xs, rfl, h1, _, rl⟩ := h
    cases r
    obtain ⟨its, rv, ⟨o, n, ho, hc, _, hd⟩, _⟩ := I.list (SqL.of (sb _ _ h1))
    obtain ⟨as, hr, ns⟩ := RepL.reads I hs sb ds xs its p rl rv
    exact ⟨_, Reads.list ho hc hd hr, by
      intro z
      rcases List.mem_cons.mp z with z | z
      · exact not_sys I hs (sb _ _ h1) z
      · exact ns z⟩
  | .dic ks vs, _, _, p, h, r => by
    simp only [Rep] at h; simp only [rpl] at p; simp only [toR]
    obtain ⟨a, kvs, rfl, h1, _, rk, rl⟩ := h
    cases r
    obtain ⟨_, _, ws, hkv, hd⟩ := dk_of I.hok (sb _ _ h1)
    have rv := kv_vals hkv
    obtain ⟨as, hr, ns⟩ := RepL.reads I hs sb vs _ _ p rl rv
    have ek : (toRL ks) = ws.map fun q => encK q.1 := by
      rw [toRL_keys rk]
      exact kv_enc hkv
    have pr : PyProof.V.PairsRead s.heap encK ws ((toRL ks).zip (toRL vs)) as := by
      rw [ek]
      clear ek h1 rk rl hd rv hkv p
      revert hr
      generalize toRL vs = ds
      clear ns
      intro hr
      induction ws generalizing ds as with
      | nil => cases hr; exact .nil
      | cons q qs ih =>
        cases hr with
        | cons r1 r2 =>
          obtain ⟨k, v⟩ := q
          exact .cons r1 (ih _ _ r2)
    exact ⟨_, PyProof.V.reads_dictOf (enc := encK) (fun k key z => by
      rcases keyIs_shape z with ⟨i, t, rfl, rfl⟩ | ⟨x, t, rfl, rfl⟩
      · exact Reads.int i t
      · exact Reads.str x t) hd pr, by
      intro z
      rcases List.mem_cons.mp z with z | z
      · exact not_sys I hs (sb _ _ h1) z
      · exact ns z⟩
  | .ins .., _, _, p, _, _ => by simp only [rpl] at p; cases p
  | .exc .., _, _, p, _, _ => by simp only [rpl] at p; cases p
  | .cel .., _, _, p, _, _ => by simp only [rpl] at p; cases p
  | .scr .., _, _, p, _, _ => by simp only [rpl] at p; cases p
theorem RepL.reads (I : Inv X pins σ H s) (hs : (X.K.lookup sysModules).isSome = true) (sb : Sub F H) : ∀ (ds : List D) (vs : List V) (us : List Value), rplL ds = true → RepL X.K F m ds vs → Vals vs us → ∃ as, ReadsAll s.heap us (toRL ds) as ∧ sysModules ∉ as
  | [], _, _, _, h, r => by simp only [RepL] at h; subst h; cases r; simp only [toRL]; exact ⟨_, ReadsAll.nil, by simp⟩
  | d :: ds, _, _, p, h, r => by
    simp only [RepL] at h; simp only [rplL, Bool.and_eq_true] at p; simp only [toRL]
    obtain ⟨x, xs, rfl, h1, h2⟩ := h
    cases r with
    | cons r1 r2 =>
      obtain ⟨as, q1, n1⟩ := Rep.reads I hs sb d _ _ p.1 h1 r1
      obtain ⟨bs, q2, n2⟩ := RepL.reads I hs sb ds _ _ p.2 h2 r2
      exact ⟨_, ReadsAll.cons q1 q2, fun z => by
        rcases List.mem_append.mp z with z | z
        · exact n1 z
        · exact n2 z⟩
end
end
end EV

namespace EV
open PySem PySem.Spec PyProof.Rows L2
def shwOk (d : D) : Bool := rpl d && (toR d).showable && decide ((toR d).depth ≤ 100) && decide ((toR d).shown.length ≤ 16777216) && cpOk (toR d).shown
def gRepr (_ : Cells) (d : D) : Option B := if shwOk d then some (.str (toR d).shown, false) else none
section
variable {X : Cx}
theorem crRepr (rm : Rm 0 X.A) (hs : (X.K.lookup sysModules).isSome = true) : CallR X (.builtin "repr") (fun xs H Q => ∃ x, xs = [x] ∧ rD1 X.K gRepr x H Q) := by
  intro pins s σ H xs us Q I r h
  obtain ⟨x, rfl, F, m, S, d, b, w, rx, e, o⟩ := h
  unfold gRepr at e
  split at e
  · rename_i hc
    cases e
    unfold shwOk at hc
    simp only [Bool.and_eq_true, decide_eq_true_eq] at hc
    obtain ⟨⟨⟨⟨c1, c2⟩, c3⟩, c4⟩, c5⟩ := hc
    have c4' : (toR d).shown.length ≤ sizeLine := by rw [line24]; exact c4
    obtain ⟨u, rfl, ru⟩ := vals1 r
    have ov : Q (.str (toR d).shown) H := o.val w (by simp only [Rep]; exact ⟨trivial, c4', c5⟩)
    have hu : X.A.units + ((toR d).depth + 1) < cLine := by have := rm.rm.un; omega
    obtain ⟨as, rd, ns⟩ := Rep.reads I hs w.sub d x u c1 rx ru
    cases u with
    | ref a => exact repr_of_reads' rd c2 (fun _ => ns) rm.gd hu (fun _ _ z => z) (fun h' t tk hk => ⟨.str _, H, I.kept hk, ⟨t, rfl⟩, ov⟩) c4'
    | none => generalize toR d = q at *; cases rd; exact PySem.P.repr_of_none ⟨.str _, H, I.tok _, ⟨_, rfl⟩, ov⟩
    | bool z => generalize toR d = q at *; cases rd; exact PySem.P.repr_of_bool ⟨.str _, H, I.tok _, ⟨_, rfl⟩, ov⟩
    | int z t => generalize toR d = q at *; cases rd; exact PySem.P.repr_of_int (of_decide_eq_true c2) ⟨.str _, H, I.tok _, ⟨_, rfl⟩, ov⟩
    | str z t => generalize toR d = q at *; cases rd; exact PySem.P.repr_of_str ⟨.str _, H, I.tok _, ⟨_, rfl⟩, ov⟩ c4'
    | _ => generalize toR d = q at *; cases rd
  · cases e
end
section
variable {pg : Pg} {N : List Str} {sc : Scope}
theorem okRepr {e : Expr} {p pos : Pos} {f : SE} (hg : glB sc "repr" = true) (hb : pg.blts.contains "repr" = true) (hs : noStar e = true) (h : OkE pg N sc e f) : OkE pg N sc (.Call (.Name "repr" p) [e] [] pos) (cOp1 gRepr f) := fun X ca lev W C => by
  refine PE.imp (pe_callB (crRepr (C.room.mono (Nat.zero_le _)) C.lib.sys) (C.gl hg) (C.lib.blt _ (List.contains_iff_mem.mp hb)) (by boot_by_name) (pa_cons (h X ca lev W C) pa_nil (starEach_cons hs)) (by decide) (by decide) (starEach_cons hs) rfl) fun σ H Q q => ?_
  exact (op1_pre q).monoQ fun x H1 q1 => ⟨x, rfl, q1⟩
/-! ### a dict displayed, its keys texts -/
def keyD : Key → D
  | .inl i => .int i
  | .inr x => .str x
def keyB : Key → Bool
  | .inl _ => true
  | .inr x => decide (x.length ≤ 16777216) && cpOk x
def nodupB : List Key → Bool
  | [] => true
  | k :: ks => !(ks.any fun z => decide (z = k)) && nodupB ks
def gDic (ks : List Key) (_ : Cells) (ds : List D) : Option B := if ds.length = ks.length then some (.dic (ks.map keyD) ds, false) else none
def keyE : Expr → Option Key
  | .Constant (.str x) _ _ => some (.inr x)
  | .Constant (.int i) _ _ => some (.inl i)
  | _ => none
def keysE : List (Option Expr) → Option (List Key)
  | [] => some []
  | some e :: es => match keyE e, keysE es with
    | some k, some ks => if keyB k then some (k :: ks) else none
    | _, _ => none
  | none :: _ => none
theorem pe_key {X : Cx} {e : Expr} {k : Key} (h : keyE e = some k) : PE X e (tC (kV k)) := by
  unfold keyE at h
  split at h
  · cases h; exact pe_str
  · cases h; exact pe_int
  · cases h
/-- the pairs of a display -/
theorem okPairs {X : Cx} {ca : Ca} {lev : Nat} {W : WX} (C : Ctx X sc N pg ca lev W) {pos : Pos} : ∀ {keys : List (Option Expr)} {values : List Expr} {ks : List Key} {fs : List SE}, keysE keys = some ks → keys.length = values.length → values.length = fs.length →
    (∀ (i : Nat) e f, values[i]? = some e → fs[i]? = some f → OkE pg N sc e f) →
    ∃ trs, PPs X pos keys values trs ∧ ∀ σ H Q, tA X.K W (fs.foldr aCons aNil ca) σ H (fun vs H' => Q ((ks.zip vs).map (fun kv => (kV kv.1, kv.2))) H') → tPairs trs σ H Q
  | [], [], ks, [], hk, _, _, _ => by
    cases hk
    refine ⟨[], pps_nil, fun σ H Q ⟨ρ, S, F, m, w, r, q⟩ => q F H m (Gr.refl w) [] .nil⟩
  | some e :: es, v :: vs, ks, f :: fs, hk, hl, hf, h => by
    unfold keysE at hk
    split at hk
    · rename_i k ks' h1 h2
      split at hk
      · cases hk
        obtain ⟨trs, p, q⟩ := okPairs C (pos := pos) h2 (by simpa using hl) (by simpa using hf) (fun i e f a b => h (i + 1) e f a b)
        refine ⟨(tC (kV k), tE X.K W (f ca)) :: trs, pps_cons (pe_key h1) (h 0 v f rfl rfl X ca lev W C) p, fun σ H Q ⟨ρ, S, F, m, w, r, z⟩ => ?_⟩
        show tE X.K W (f ca) σ H _
        refine tE.ofF w r (Post.mono (Post.bind z) fun b S1 F1 H1 m1 e1 g1 z1 y ry => ?_)
        refine q σ H1 _ ⟨ρ, S1, F1, m1, g1.w, r.gr g1, Post.mono (Post.bind z1) fun ds S2 F2 H2 m2 e2 g2 z2 us rus => ?_⟩
        exact z2 F2 H2 m2 (Gr.refl g2.w) (y :: us) (.cons (ry.gr g2) rus)
      · cases hk
    · cases hk
  | [], _ :: _, _, _, _, hl, _, _ => by simp at hl
  | _ :: _, [], _, _, _, hl, _, _ => by simp at hl
  | [], [], _, _ :: _, _, _, hf, _ => by simp at hf
  | _ :: _, _ :: _, _, [], _, _, hf, _ => by simp at hf
  | none :: _, _ :: _, _, _ :: _, hk, _, _, _ => by cases hk
theorem putK_end {kvs : List (Key × V)} {k : Key} {v : V} (h : (kvs.any fun z => decide (z.1 = k)) = false) : putK kvs k v = kvs ++ [(k, v)] := by
  unfold putK
  rw [h]
  simp
theorem merge_nodup : ∀ (more kvs : List (Key × V)), nodupB (more.map (·.1)) = true → (∀ p ∈ more, (kvs.any fun z => decide (z.1 = p.1)) = false) → mergeK kvs more = kvs ++ more
  | [], kvs, _, _ => by simp [mergeK]
  | (k, v) :: more, kvs, hn, hd => by
    show mergeK (putK kvs k v) more = _
    simp only [List.map_cons, nodupB, Bool.and_eq_true, Bool.not_eq_true'] at hn
    rw [putK_end (hd (k, v) (List.mem_cons_self ..)), merge_nodup more _ hn.2 (fun p hp => ?_)]
    · simp
    · rw [List.any_append, hd p (List.mem_cons_of_mem _ hp)]
      simp only [List.any_cons, List.any_nil, Bool.or_false, Bool.false_or, decide_eq_false_iff_not]
      intro e
      have := hn.1
      rw [List.any_eq_false] at this
      exact this p.1 (List.mem_map_of_mem hp) (by simp [e])
theorem repL_keys {K : PySem.W.Frag} {F : Hp} {m : List Addr} : ∀ {ks : List Key} {vs : List V}, ks.all keyB = true → vs.length = ks.length → RepL K F m (ks.map keyD) ((ks.zip vs).map fun q => kV q.1)
  | [], vs, _, _ => by simp only [List.map_nil, List.zip_nil_left]; exact .nil
  | k :: ks, [], _, h => by simp at h
  | k :: ks, v :: vs, hb, h => by
    simp only [List.all_cons, Bool.and_eq_true] at hb
    simp only [List.map_cons, List.zip_cons_cons]
    refine .cons ?_ (repL_keys hb.2 (by simpa using h))
    cases k with
    | inl i => exact rep_int i
    | inr x =>
      have := hb.1
      simp only [keyB, Bool.and_eq_true, decide_eq_true_eq] at this
      show Rep _ _ _ (.str x) (.str x)
      simp only [Rep]
      rw [line24]
      exact ⟨trivial, this.1, this.2⟩
theorem zip_snd {α β : Type} : ∀ {ks : List α} {vs : List β}, vs.length = ks.length → (ks.zip vs).map (·.2) = vs
  | [], [], _ => rfl
  | k :: ks, v :: vs, h => by simp only [List.zip_cons_cons, List.map_cons, zip_snd (by simpa using h : vs.length = ks.length)]
  | [], v :: vs, h => by simp at h
  | k :: ks, [], h => by simp at h
theorem zip_fst {α β : Type} : ∀ {ks : List α} {vs : List β}, vs.length = ks.length → (ks.zip vs).map (·.1) = ks
  | [], [], _ => rfl
  | k :: ks, v :: vs, h => by simp only [List.zip_cons_cons, List.map_cons, zip_fst (by simpa using h : vs.length = ks.length)]
  | [], v :: vs, h => by simp at h
  | k :: ks, [], h => by simp at h
theorem keysE_ok : ∀ {keys : List (Option Expr)} {ks : List Key}, keysE keys = some ks → ks.all keyB = true ∧ keys.all (·.isSome) = true ∧ ks.length = keys.length
  | [], ks, h => by cases h; exact ⟨rfl, rfl, rfl⟩
  | some e :: es, ks, h => by
    unfold keysE at h
    split at h
    · rename_i k ks' h1 h2
      split at h
      · rename_i hb
        cases h
        obtain ⟨a, b, c⟩ := keysE_ok h2
        exact ⟨by simp [hb, a], by simpa using b, by simp [c]⟩
      · cases h
    · cases h
  | none :: _, _, h => by cases h
theorem okDic {keys : List (Option Expr)} {values : List Expr} {pos : Pos} {ks : List Key} {fs : List SE} (hk : keysE keys = some ks) (hn : nodupB ks = true) (hl : keys.length = values.length) (h0 : keys ≠ []) (h15 : keys.length ≤ 15) (hf : values.length = fs.length)
    (h : ∀ (i : Nat) e f, values[i]? = some e → fs[i]? = some f → OkE pg N sc e f) : OkE pg N sc (.Dict keys values pos) (cOpn (gDic ks) (fs.foldr aCons aNil)) := fun X ca lev W C => by
  obtain ⟨trs, p, q⟩ := okPairs C (pos := pos) hk hl hf h
  obtain ⟨kb, ka, kl⟩ := keysE_ok hk
  refine PE.imp (pe_disp p ka hl h0 h15) fun σ H Q z => ?_
  intro a ha
  obtain ⟨ρ, S, F, m, w, r, z⟩ := z
  have g0 := Gr.lay (o := .dK []) w ha
  refine q σ _ _ ⟨ρ, S, F, m, g0.w, r, ?_⟩
  have z1 := Post.bind z
  cases e : fs.foldr aCons aNil ca ρ S with
  | no => rw [e] at z1; exact z1.elim
  | exn c d S1 =>
    rw [e] at z1
    exact Wish.gr g0 z1
  | ok ds S1 =>
    rw [e] at z1
    intro F1 H1 m1 g1 vs rvs
    have fr := g1.frm a _ upd_same (w.newF ha) (w.newNot ha)
    have hH : ∀ b, b ≠ a → ∀ u, upd H1 a u b = H1 b := fun b hb u => upd_ne hb
    have G : ∀ u : HO, Gr X.K F H m (upd F1 a u) (upd H1 a u) m1 S1 := fun u => by
      have g01 := g0.trans g1
      have w1 : Wd X.K F1 (upd H1 a u) m1 S1 := ⟨fun b v e => by
          rw [upd_ne (fun z => by rw [z, fr.2.1] at e; cases e)]; exact g1.w.sub b v e, g1.w.len, g1.w.nd, fun i b es h1 h2 => by
          obtain ⟨y1, xs, y2, y3⟩ := g1.w.cel i b es h1 h2
          have hb : b ≠ a := fun z => fr.2.2 (z ▸ List.mem_of_getElem? h1)
          exact ⟨y1, xs, by rw [upd_ne hb]; exact y2, y3⟩, g1.w.im⟩
      refine ⟨w1.frz upd_same fr.2.2 fr.2.1, g01.up.trans (sub_upd fr.2.1), g01.ext, fun b v h1 h2 h3 => ?_⟩
      obtain ⟨y1, y2, y3⟩ := g01.frm b v h1 h2 h3
      have hb : b ≠ a := fun z => by rw [z, ha] at h1; cases h1
      exact ⟨by rw [upd_ne hb]; exact y1, by rw [upd_ne hb]; exact y2, y3⟩
    have z2 := z1 _ _ m1 (G (.dK (ks.zip vs)))
    have hfr : ∀ p, (upd H1 a (.dK (ks.zip vs))) p = none → H p = none := fun p h0 => (G (.dK (ks.zip vs))).fresh h0
    obtain ⟨b, eb, o⟩ := post_lift (H0 := H) hfr z2
    unfold gDic at eb
    split at eb
    · rename_i hlen
      cases eb
      have hvl : vs.length = ks.length := by rw [← rvs.length]; exact hlen
      refine ⟨fr.1, ks.zip vs, rfl, by simp [hvl]; omega, ?_⟩
      have em : mergeK [] (ks.zip vs) = ks.zip vs := by
        have := merge_nodup (ks.zip vs) [] (by rw [zip_fst hvl]; exact hn) (fun _ _ => rfl)
        simpa using this
      rw [em]
      refine o.val (G _).w ?_
      simp only [Rep]
      refine ⟨a, ks.zip vs, rfl, upd_same, ?_, repL_keys kb hvl, ?_⟩
      · rw [line24]; simp [hvl]; omega
      · rw [zip_snd hvl]
        exact rvs.up (sub_upd fr.2.1) Ext.refl
    · cases eb
theorem okDic0 {pos : Pos} : OkE pg N sc (.Dict [] [] pos) (cOpn (gDic []) aNil) := fun X ca lev W C => by
  refine PE.imp pe_dnewK fun σ H Q z => ?_
  obtain ⟨ρ, S, F, m, w, r, z⟩ := z
  have z1 : Post X.K W σ F H m (lift (gDic [] S []) S) _ := z
  obtain ⟨b, eb, o⟩ := post_lift (H0 := H) (fun _ h => h) z1
  cases eb
  intro p hp
  refine o (.ref p) (upd F p (.dK [])) _ m (Gr.layF w hp) ?_
  show Rep _ _ _ _ _
  simp only [Rep]
  exact ⟨p, [], rfl, upd_same, by simp, .nil, .nil⟩
end
end EV

namespace EV
open PySem PySem.Spec PyProof.Rows L2

/-! ### from the text to the combinators: expressions -/
structure Rec where
  e : Scope → Expr → Option SE
  t : Scope → Expr → Option ST
structure RecOk (pg : Pg) (N : List Str) (r : Rec) : Prop where
  e : ∀ sc e f, r.e sc e = some f → OkE pg N sc e f
  t : ∀ sc e f, r.t sc e = some f → OkT pg N sc e f
def aOf (fs : List SE) : SA := fs.foldr aCons aNil
def mapO {α β : Type} (g : α → Option β) : List α → Option (List β)
  | [] => some []
  | a :: as => match g a, mapO g as with
    | some b, some bs => some (b :: bs)
    | _, _ => none
theorem mapO_len {α β : Type} {g : α → Option β} : ∀ {as : List α} {bs : List β}, mapO g as = some bs → as.length = bs.length
  | [], bs, h => by cases h; rfl
  | a :: as, bs, h => by
    unfold mapO at h
    split at h
    · rename_i b bs' h1 h2
      cases h
      simp [mapO_len h2]
    · cases h
theorem mapO_get {α β : Type} {g : α → Option β} : ∀ {as : List α} {bs : List β}, mapO g as = some bs → ∀ (i : Nat) a b, as[i]? = some a → bs[i]? = some b → g a = some b
  | [], bs, h, i, a, b, ha, hb => by simp at ha
  | a0 :: as, bs, h, i, a, b, ha, hb => by
    unfold mapO at h
    split at h
    · rename_i b' bs' h1 h2
      cases h
      cases i with
      | zero => simp at ha hb; subst ha hb; exact h1
      | succ i => simp at ha hb; exact mapO_get h2 i a b ha hb
    · cases h
theorem aOf_len : ∀ {fs : List SE} {ca : Ca} {ρ : En} {S S' : Cells} {ds : List D}, aOf fs ca ρ S = .ok ds S' → ds.length = fs.length
  | [], ca, ρ, S, S', ds, h => by cases h; rfl
  | f :: fs, ca, ρ, S, S', ds, h => by
    have h' : (f ca ρ S).bind (fun b S => (aOf fs ca ρ S).bind fun ds S => .ok (b.1 :: ds) S) = .ok ds S' := h
    cases e1 : f ca ρ S with
    | no => rw [e1] at h'; cases h'
    | exn c d S1 => rw [e1] at h'; cases h'
    | ok b S1 =>
      rw [e1] at h'
      have h2 : (aOf fs ca ρ S1).bind (fun ds S => .ok (b.1 :: ds) S) = .ok ds S' := h'
      cases e2 : aOf fs ca ρ S1 with
      | no => rw [e2] at h2; cases h2
      | exn c d S1 => rw [e2] at h2; cases h2
      | ok es S2 =>
        rw [e2] at h2
        have h3 : (R.ok (b.1 :: es) S2 : R (List D)) = .ok ds S' := h2
        cases h3
        simp [aOf_len e2]
section
variable {pg : Pg} {N : List Str} {sc : Scope}
theorem okAs {r : Rec} (R : RecOk pg N r) : ∀ {es : List Expr} {fs : List SE}, es.all noStar = true → mapO (r.e sc) es = some fs → OkA pg N sc es (aOf fs)
  | [], fs, _, h => by cases h; exact okNil
  | e :: es, fs, hs, h => by
    simp only [List.all_cons, Bool.and_eq_true] at hs
    unfold mapO at h
    split at h
    · rename_i f fs' h1 h2
      cases h
      exact okCons hs.1 (R.e sc e f h1) (okAs R hs.2 h2)
    · cases h
/-! names, constants -/
def rName (pg : Pg) (N : List Str) (sc : Scope) (x : Str) : Option SE :=
  if plainName x then (if visB sc x then (slot? N x).map cVar else if glB sc x then (pg.cons.lookup x).map cCon else none) else none
theorem rName_ok {x : Str} {pos : Pos} {f : SE} (h : rName pg N sc x = some f) : OkE pg N sc (.Name x pos) f := by
  unfold rName at h
  split at h
  · split at h
    · cases q : slot? N x with
      | none => rw [q] at h; cases h
      | some i => rw [q] at h; cases h; exact okVar q (by assumption) (by assumption)
    · split at h
      · cases q : pg.cons.lookup x with
        | none => rw [q] at h; cases h
        | some i => rw [q] at h; cases h; exact okGlob (by assumption) (by assumption) q
      · cases h
  · cases h
def rConst : Const → Option SE
  | .none => some (cCon .non)
  | .bool b => some (cCon (.bl b))
  | .int i => some (cCon (.int i))
  | .str x => if decide (x.length ≤ 16777216) && cpOk x then some (cCon (.str x)) else none
  | _ => none
theorem rConst_ok {c : Const} {j : Nat} {pos : Pos} {f : SE} (h : rConst c = some f) : OkE pg N sc (.Constant c j pos) f := by
  unfold rConst at h
  split at h
  · cases h; exact okNon
  · cases h; exact okBl
  · cases h; exact okInt
  · split at h
    · rename_i hc
      simp only [Bool.and_eq_true, decide_eq_true_eq] at hc
      cases h; exact okStr hc.1 hc.2
    · cases h
  · cases h
/-! operators -/
def binG : Operator → Option (Cells → D → D → Option B)
  | .Add => some dAdd
  | .Sub => some dSub
  | .Mult => some dMul
  | .Mod => some dMod
  | .Pow => some dPow
  | .LShift => some dShl
  | .RShift => some dShr
  | .BitOr => some dOrI
  | .BitXor => some dXor
  | .BitAnd => some dAndI
  | .FloorDiv => some dDiv
  | _ => none
theorem binG_ok {op : Operator} {g : Cells → D → D → Option B} (h : binG op = some g) : ∀ X, OpR X (binaryOp op) (rD2 X.K g) := by
  intro X
  cases op <;> cases h
  · exact opAdd
  · exact opSub
  · exact opMul
  · exact opMod
  · exact opPow
  · exact opShl
  · exact opShr
  · exact opOrI
  · exact opXor
  · exact opAndI
  · exact opDiv
def cmpG : CmpOp → Option (Cells → D → D → Option B)
  | .Eq => some dEq
  | .NotEq => some dNe
  | .Lt => some dLt
  | .LtE => some dLe
  | .Gt => some dGt
  | .GtE => some dGe
  | .Is => some dIs
  | .IsNot => some dIsNot
  | .In => some dIn
  | .NotIn => some dNotIn
theorem cmpG_ok {op : CmpOp} {g : Cells → D → D → Option B} (h : cmpG op = some g) : ∀ X, Rm 0 X.A → OpR X (compareOp op) (rD2 X.K g) := by
  intro X r
  cases op <;> cases h
  · exact opEq r
  · exact opNe r
  · exact opLt r
  · exact opLe r
  · exact opGt r
  · exact opGe r
  · exact opIs r
  · exact opIsNot r
  · exact opIn r
  · exact opNotIn r
def rCmp (r : Rec) (sc : Scope) (a : Expr) (ops : List CmpOp) (cs : List Expr) : Option SE := match ops, cs with
  | [op], [b] => (match cmpG op, r.e sc a, r.e sc b with
    | some g, some fa, some fb => if behindInMarks op b then none else some (cOp2 g fa fb)
    | _, _, _ => none)
  | [op, op'], [b, c] => (match cmpG op, cmpG op', r.e sc a, r.e sc b, r.e sc c with
    | some g, some g', some fa, some fb, some fc => if lastMarks [op, op'] [b, c] then none else some (cChain g g' fa fb fc)
    | _, _, _, _, _ => none)
  | _, _ => none
theorem rCmp_ok {r : Rec} (R : RecOk pg N r) {a : Expr} {ops : List CmpOp} {cs : List Expr} {pos : Pos} {f : SE} (h : rCmp r sc a ops cs = some f) : OkE pg N sc (.Compare a ops cs pos) f ∧ OkT pg N sc (.Compare a ops cs pos) (tBl f) := by
  unfold rCmp at h
  split at h
  · split at h
    · rename_i g fa fb h1 h2 h3
      split at h
      · cases h
      · rename_i hm
        cases h
        exact ⟨okCmp (cmpG_ok h1) (by simpa using hm) (R.e _ _ _ h2) (R.e _ _ _ h3), okTCmp (cmpG_ok h1) (by simpa using hm) (R.e _ _ _ h2) (R.e _ _ _ h3)⟩
    · cases h
  · split at h
    · rename_i g g' fa fb fc h1 h2 h3 h4 h5
      split at h
      · cases h
      · rename_i hm
        cases h
        exact ⟨okChain (cmpG_ok h1) (cmpG_ok h2) (by simpa using hm) (R.e _ _ _ h3) (R.e _ _ _ h4) (R.e _ _ _ h5), okTChain (cmpG_ok h1) (cmpG_ok h2) (by simpa using hm) (R.e _ _ _ h3) (R.e _ _ _ h4) (R.e _ _ _ h5)⟩
    · cases h
  · cases h
/-! and, or -/
def boolE (op : BoolOp) : List SE → Option SE
  | [] => none
  | [f] => some f
  | f :: g :: fs => match boolE op (g :: fs) with
    | some h => some (match op with
      | .And => cAnd f h
      | .Or => cOr f h)
    | none => none
theorem boolE_ok {r : Rec} (R : RecOk pg N r) {op : BoolOp} {pos : Pos} : ∀ {es : List Expr} {fs : List SE} {f : SE}, mapO (r.e sc) es = some fs → boolE op fs = some f → OkE pg N sc (.BoolOp op es pos) f
  | [], fs, f, h, k => by cases h; cases k
  | [e], fs, f, h, k => by
    unfold mapO at h
    split at h
    · rename_i b bs h1 h2
      cases h2; cases h
      cases k
      exact okAnd1 (R.e _ _ _ h1)
    · cases h
  | e :: e2 :: es, fs, f, h, k => by
    unfold mapO at h
    split at h
    · rename_i b bs h1 h2
      cases h
      have h2' := h2
      unfold mapO at h2
      split at h2
      · cases h2
        unfold boolE at k
        split at k
        · rename_i hh hk
          cases k
          cases op with
          | And => exact okAnd (R.e _ _ _ h1) (boolE_ok R h2' hk)
          | Or => exact okOr (R.e _ _ _ h1) (boolE_ok R h2' hk)
        · cases k
      · cases h2
    · cases h
def boolT (op : BoolOp) : List ST → Option ST
  | [] => none
  | [f] => some f
  | f :: g :: fs => match boolT op (g :: fs) with
    | some h => some (match op with
      | .And => tAndT f h
      | .Or => tOrT f h)
    | none => none
theorem boolT_ok {r : Rec} (R : RecOk pg N r) {op : BoolOp} {pos : Pos} : ∀ {es : List Expr} {fs : List ST} {f : ST}, mapO (r.t sc) es = some fs → boolT op fs = some f → OkW pg N sc (.BoolOp op es pos) f
  | [], fs, f, h, k => by cases h; cases k
  | [e], fs, f, h, k => by
    unfold mapO at h
    split at h
    · rename_i b bs h1 h2
      cases h2; cases h
      cases k
      cases op with
      | And => exact okTAnd1 (R.t _ _ _ h1)
      | Or => exact okTOr1 (R.t _ _ _ h1)
    · cases h
  | e :: e2 :: es, fs, f, h, k => by
    unfold mapO at h
    split at h
    · rename_i b bs h1 h2
      cases h
      have h2' := h2
      unfold mapO at h2
      split at h2
      · cases h2
        unfold boolT at k
        split at k
        · rename_i hh hk
          cases k
          cases op with
          | And => exact okTAnd (R.t _ _ _ h1) (boolT_ok R h2' hk)
          | Or => exact okTOr (R.t _ _ _ h1) (boolT_ok R h2' hk)
        · cases k
      · cases h2
    · cases h
end
end EV

namespace EV
open PySem PySem.Spec PyProof.Rows L2
section
variable {pg : Pg} {N : List Str} {sc : Scope}
def rBlt (x : Str) : Option (Cells → List D → Option B) :=
  if x == ("len" : Str) then some bLen else if x == ("abs" : Str) then some bAbs else if x == ("max" : Str) then some bMax2 else if x == ("min" : Str) then some bMin2 else if x == ("all" : Str) then some bAll
  else if x == ("any" : Str) then some bAny else if x == ("int" : Str) then some bInt else if x == ("list" : Str) then some bList else if x == ("tuple" : Str) then some bTuple else none
theorem rBlt_ok {x : Str} {g : Cells → List D → Option B} {e : Expr} {es : List Expr} {p pos : Pos} {a : SA} (h : rBlt x = some g) (hg : glB sc x = true) (hp : plainName x = true) (hb : x ∈ pg.blts) (hs : (e :: es).all noStar = true) (ha : OkA pg N sc (e :: es) a) :
    OkE pg N sc (.Call (.Name x p) (e :: es) [] pos) (cOpn g a) := by
  unfold rBlt at h
  split at h
  · rename_i hx; have := eq_of_beq hx; subst this; cases h; exact okCallB (fun X hc rm => crLen hc rm) hg hp hb (by boot_by_name) hs ha
  split at h
  · rename_i hx; have := eq_of_beq hx; subst this; cases h; exact okCallB (fun X hc rm => crAbs hc rm) hg hp hb (by boot_by_name) hs ha
  split at h
  · rename_i hx; have := eq_of_beq hx; subst this; cases h; exact okCallB (fun X hc rm => crMax2 hc rm) hg hp hb (by boot_by_name) hs ha
  split at h
  · rename_i hx; have := eq_of_beq hx; subst this; cases h; exact okCallB (fun X hc rm => crMin2 hc rm) hg hp hb (by boot_by_name) hs ha
  split at h
  · rename_i hx; have := eq_of_beq hx; subst this; cases h; exact okCallB (fun X hc rm => crAll hc rm) hg hp hb (by boot_by_name) hs ha
  split at h
  · rename_i hx; have := eq_of_beq hx; subst this; cases h; exact okCallB (fun X hc rm => crAny hc rm) hg hp hb (by boot_by_name) hs ha
  split at h
  · rename_i hx; have := eq_of_beq hx; subst this; cases h; exact okCallT (fun X hc rm => crInt hc rm) hg hp hb (by boot_by_name) hs ha
  split at h
  · rename_i hx; have := eq_of_beq hx; subst this; cases h; exact okCallT (fun X hc rm => crList hc rm) hg hp hb (by boot_by_name) hs ha
  split at h
  · rename_i hx; have := eq_of_beq hx; subst this; cases h; exact okCallT (fun X hc rm => crTuple hc rm) hg hp hb (by boot_by_name) hs ha
  cases h
/-- a built-in's name: free in the module, seen from here -/
def bltOk (pg : Pg) (sc : Scope) (x : Str) : Bool := glB sc x && pg.blts.contains x
theorem bltOk_ok {x : Str} (h : bltOk pg sc x = true) : glB sc x = true ∧ pg.blts.contains x = true := by
  unfold bltOk at h
  simpa only [Bool.and_eq_true] using h
/-! calls by a name -/
def rIsi (pg : Pg) (r : Rec) (sc : Scope) (a b : Expr) : Option SE := match b with
  | .Name c _ => if bltOk pg sc "isinstance" && noStar a then (if c == ("ValueError" : Str) then (if bltOk pg sc "ValueError" then (r.e sc a).map (cOp1 (gIsVE pg.excs)) else none)
      else if pg.excs.contains c && glB sc c && plainName c then (r.e sc a).map (cOp1 (gIsE pg.excs c)) else none) else none
  | _ => none
theorem rIsi_ok {r : Rec} (R : RecOk pg N r) {a b : Expr} {p pos : Pos} {f : SE} (h : rIsi pg r sc a b = some f) : OkE pg N sc (.Call (.Name "isinstance" p) [a, b] [] pos) f := by
  unfold rIsi at h
  split at h
  · split at h
    · rename_i c p2 hc
      simp only [Bool.and_eq_true] at hc
      obtain ⟨h1, h2⟩ := bltOk_ok hc.1
      split at h
      · rename_i hx
        have := eq_of_beq hx
        subst this
        split at h
        · rename_i hv
          obtain ⟨h3, h4⟩ := bltOk_ok hv
          cases q : r.e sc a with
          | none => rw [q] at h; cases h
          | some fa => rw [q] at h; cases h; exact okIsVE h1 h2 h3 h4 hc.2 (R.e _ _ _ q)
        · cases h
      · split at h
        · rename_i hx
          simp only [Bool.and_eq_true] at hx
          cases q : r.e sc a with
          | none => rw [q] at h; cases h
          | some fa => rw [q] at h; cases h; exact okIsE hx.1.1 h1 h2 hx.1.2 hx.2 hc.2 (R.e _ _ _ q)
        · cases h
    · cases h
  · cases h
def rListR (pg : Pg) (r : Rec) (sc : Scope) (e : Expr) : Option SE := match e with
  | .Call (.Name x _) [a] [] _ => if x == ("range" : Str) && bltOk pg sc "range" && bltOk pg sc "list" && noStar a then (r.e sc a).map (cOp1 gLR) else none
  | .Call (.Name x _) [a, b] [] _ => if x == ("range" : Str) && bltOk pg sc "range" && bltOk pg sc "list" && noStar a && noStar b then (match r.e sc a, r.e sc b with
    | some f, some g => some (cOp2 gLR2 f g)
    | _, _ => none) else none
  | _ => none
theorem rListR_ok {r : Rec} (R : RecOk pg N r) {e : Expr} {p pos : Pos} {f : SE} (h : rListR pg r sc e = some f) : OkE pg N sc (.Call (.Name "list" p) [e] [] pos) f := by
  unfold rListR at h
  split at h
  · split at h
    · rename_i hc
      simp only [Bool.and_eq_true] at hc
      obtain ⟨⟨⟨hx, h1⟩, h2⟩, h3⟩ := hc
      have := eq_of_beq hx
      subst this
      obtain ⟨a1, a2⟩ := bltOk_ok h1
      obtain ⟨b1, b2⟩ := bltOk_ok h2
      rename_i a _
      cases q : r.e sc a with
      | none => rw [q] at h; cases h
      | some fa => rw [q] at h; cases h; exact okListRg b1 b2 a1 a2 h3 (R.e _ _ _ q)
    · cases h
  · split at h
    · rename_i hc
      simp only [Bool.and_eq_true] at hc
      obtain ⟨⟨⟨⟨hx, h1⟩, h2⟩, h3⟩, h4⟩ := hc
      have := eq_of_beq hx
      subst this
      obtain ⟨a1, a2⟩ := bltOk_ok h1
      obtain ⟨b1, b2⟩ := bltOk_ok h2
      split at h
      · rename_i q1 q2
        cases h
        exact okListRg2 b1 b2 a1 a2 h3 h4 (R.e _ _ _ q1) (R.e _ _ _ q2)
      · cases h
    · cases h
  · cases h
def orO {α : Type} (a : Option α) (b : Option α) : Option α := match a with
  | some x => some x
  | none => b
theorem orO_some {α : Type} {a b : Option α} {x : α} (h : orO a b = some x) : a = some x ∨ b = some x := by
  unfold orO at h
  split at h
  · exact .inl h
  · exact .inr h
def rOwn (pg : Pg) (r : Rec) (sc : Scope) (x : Str) (es : List Expr) : Option SE := match pg.fns.lookup x, mapO (r.e sc) es with
  | some i, some fs => if glB sc x && es.all noStar && decide (es.length + i.dfl.length ≥ i.ps.length) && decide (es.length ≤ i.ps.length) then some (cCall (x, none) (i.dfl.drop (es.length + i.dfl.length - i.ps.length)) (aOf fs)) else none
  | _, _ => none
theorem rOwn_ok {r : Rec} (R : RecOk pg N r) {x : Str} {e : Expr} {es : List Expr} {p pos : Pos} {f : SE} (hp : plainName x = true) (h : rOwn pg r sc x (e :: es) = some f) : OkE pg N sc (.Call (.Name x p) (e :: es) [] pos) f := by
  unfold rOwn at h
  split at h
  · rename_i i fs h1 h2
    split at h
    · rename_i hc
      simp only [Bool.and_eq_true, decide_eq_true_eq] at hc
      cases h
      exact okCall h1 hc.1.1.1 hp hc.1.1.2 hc.1.2 hc.2 (okAs R hc.1.1.2 h2) fun ca ρ S ds S' z => by rw [aOf_len z, ← mapO_len h2]
    · cases h
  · cases h
def rExc (pg : Pg) (r : Rec) (sc : Scope) (x : Str) (es : List Expr) : Option SE := match es with
  | [e] => if pg.excs.contains x && glB sc x && noStar e then (r.e sc e).map fun f => cOpn (gExc x) (aCons f aNil) else none
  | _ => none
theorem rExc_ok {r : Rec} (R : RecOk pg N r) {x : Str} {es : List Expr} {p pos : Pos} {f : SE} (hp : plainName x = true) (h : rExc pg r sc x es = some f) : OkE pg N sc (.Call (.Name x p) es [] pos) f := by
  unfold rExc at h
  split at h
  · split at h
    · rename_i e hc
      simp only [Bool.and_eq_true] at hc
      cases q : r.e sc e with
      | none => rw [q] at h; cases h
      | some fa => rw [q] at h; cases h; exact okExc hc.1.1 hc.1.2 hp hc.2 (R.e _ _ _ q)
    · cases h
  · cases h
def rBltC (pg : Pg) (r : Rec) (sc : Scope) (x : Str) (es : List Expr) : Option SE := match rBlt x, mapO (r.e sc) es with
  | some g, some fs => if bltOk pg sc x && es.all noStar then some (cOpn g (aOf fs)) else none
  | _, _ => none
theorem rBltC_ok {r : Rec} (R : RecOk pg N r) {x : Str} {e : Expr} {es : List Expr} {p pos : Pos} {f : SE} (hp : plainName x = true) (h : rBltC pg r sc x (e :: es) = some f) : OkE pg N sc (.Call (.Name x p) (e :: es) [] pos) f := by
  unfold rBltC at h
  split at h
  · rename_i g fs h1 h2
    split at h
    · rename_i hc
      simp only [Bool.and_eq_true] at hc
      obtain ⟨a1, a2⟩ := bltOk_ok hc.1
      cases h
      exact rBlt_ok h1 a1 hp (List.contains_iff_mem.mp a2) hc.2 (okAs R hc.2 h2)
    · cases h
  · cases h
def rRepr (pg : Pg) (r : Rec) (sc : Scope) (es : List Expr) : Option SE := match es with
  | [e] => if bltOk pg sc "repr" && noStar e then (r.e sc e).map (cOp1 gRepr) else none
  | _ => none
theorem rRepr_ok {r : Rec} (R : RecOk pg N r) {es : List Expr} {p pos : Pos} {f : SE} (h : rRepr pg r sc es = some f) : OkE pg N sc (.Call (.Name "repr" p) es [] pos) f := by
  unfold rRepr at h
  split at h
  · split at h
    · rename_i e hc
      simp only [Bool.and_eq_true] at hc
      obtain ⟨a1, a2⟩ := bltOk_ok hc.1
      cases q : r.e sc e with
      | none => rw [q] at h; cases h
      | some fa => rw [q] at h; cases h; exact okRepr a1 a2 hc.2 (R.e _ _ _ q)
    · cases h
  · cases h
def rCall (pg : Pg) (r : Rec) (sc : Scope) (x : Str) (es : List Expr) : Option SE := match es with
  | [] => none
  | e :: es => if plainName x then (if x == ("isinstance" : Str) then (match es with
      | [b] => rIsi pg r sc e b
      | _ => none)
    else if x == ("repr" : Str) then rRepr pg r sc (e :: es)
    else if x == ("list" : Str) then (match es with
      | [] => orO (rListR pg r sc e) (rBltC pg r sc x [e])
      | _ => none)
    else orO (rOwn pg r sc x (e :: es)) (orO (rExc pg r sc x (e :: es)) (rBltC pg r sc x (e :: es)))) else none
theorem rCall_ok {r : Rec} (R : RecOk pg N r) {x : Str} {es : List Expr} {p pos : Pos} {f : SE} (h : rCall pg r sc x es = some f) : OkE pg N sc (.Call (.Name x p) es [] pos) f := by
  unfold rCall at h
  split at h
  · cases h
  split at h
  · rename_i e es hp
    split at h
    · rename_i hx
      have := eq_of_beq hx
      subst this
      split at h
      · exact rIsi_ok R h
      · cases h
    split at h
    · rename_i hx
      have := eq_of_beq hx
      subst this
      exact rRepr_ok R h
    split at h
    · rename_i hx
      have := eq_of_beq hx
      subst this
      split at h
      · rcases orO_some h with h | h
        · exact rListR_ok R h
        · exact rBltC_ok R hp h
      · cases h
    rcases orO_some h with h | h
    · exact rOwn_ok R hp h
    rcases orO_some h with h | h
    · exact rExc_ok R hp h
    · exact rBltC_ok R hp h
  · cases h
/-! iteration, comprehensions -/
def rIter (pg : Pg) (r : Rec) (sc : Scope) (tg it : Expr) : Option SI := match it with
  | .Call (.Name x _) [a] [] _ => if x == ("range" : Str) then (if bltOk pg sc "range" && noStar a then (r.e sc a).map iRng1 else none)
    else if x == ("enumerate" : Str) then (match tg with
      | .Tuple .. => if bltOk pg sc "enumerate" && noStar a then (r.e sc a).map iEnu else none
      | _ => none)
    else (r.e sc it).map iVal
  | .Call (.Name x _) [a, b] [] _ => if x == ("range" : Str) then (if bltOk pg sc "range" && noStar a && noStar b then (match r.e sc a, r.e sc b with
      | some f, some g => some (iRng2 f g)
      | _, _ => none) else none)
    else (r.e sc it).map iVal
  | _ => (r.e sc it).map iVal
theorem rIter_ok {r : Rec} (R : RecOk pg N r) {tg it : Expr} {f : SI} (h : rIter pg r sc tg it = some f) : OkI pg N sc tg it f := by
  have val : ∀ {e : Expr} {f : SI}, (r.e sc e).map iVal = some f → OkI pg N sc tg e f := fun {e f} h => by
    cases q : r.e sc e with
    | none => rw [q] at h; cases h
    | some fa => rw [q] at h; cases h; exact okIVal (R.e _ _ _ q)
  unfold rIter at h
  split at h
  · rename_i x p a pos
    split at h
    · rename_i hx
      have := eq_of_beq hx
      subst this
      split at h
      · rename_i hc
        simp only [Bool.and_eq_true] at hc
        obtain ⟨a1, a2⟩ := bltOk_ok hc.1
        cases q : r.e sc a with
        | none => rw [q] at h; cases h
        | some fa => rw [q] at h; cases h; exact okIRng1 a1 (List.contains_iff_mem.mp a2) hc.2 (R.e _ _ _ q)
      · cases h
    split at h
    · rename_i hx
      have := eq_of_beq hx
      subst this
      split at h
      · split at h
        · rename_i hc
          simp only [Bool.and_eq_true] at hc
          obtain ⟨a1, a2⟩ := bltOk_ok hc.1
          cases q : r.e sc a with
          | none => rw [q] at h; cases h
          | some fa => rw [q] at h; cases h; exact okIEnu a1 (List.contains_iff_mem.mp a2) hc.2 (R.e _ _ _ q)
        · cases h
      · cases h
    exact val h
  · rename_i x p a b pos
    split at h
    · rename_i hx
      have := eq_of_beq hx
      subst this
      split at h
      · rename_i hc
        simp only [Bool.and_eq_true] at hc
        obtain ⟨a1, a2⟩ := bltOk_ok hc.1.1
        split at h
        · rename_i q1 q2
          cases h
          exact okIRng2 a1 (List.contains_iff_mem.mp a2) hc.1.2 hc.2 (R.e _ _ _ q1) (R.e _ _ _ q2)
        · cases h
      · cases h
    exact val h
  · exact val h
def rTs (r : Rec) (sc : Scope) : List Expr → Option ST
  | [] => some tYesT
  | [c] => r.t sc c
  | _ => none
theorem rTs_ok {r : Rec} (R : RecOk pg N r) {es : List Expr} {f : ST} (h : rTs r sc es = some f) : OkTs pg N sc es f := by
  unfold rTs at h
  split at h
  · cases h; exact okTsNil
  · exact okTsOne (R.t _ _ _ h)
  · cases h
def ownOf (N : List Str) (scope : Scope) : List (Str × Nat) := scope.names.filterMap fun y => match y.2 with
  | .local => (slot? N y.1).map fun i => (y.1, i)
  | .cell => (slot? N y.1).map fun i => (y.1, i)
  | _ => none
def rComp (pg : Pg) (N : List Str) (r : Rec) (sc : Scope) (elt : Expr) (gs : List Comprehension) (scope : Scope) : Option SE := match gs with
  | [⟨tg, iter, ifs, k⟩] => if k == 0 && blkC N sc scope (ownOf N scope) && notSet iter then (match rIter pg r sc tg iter, tgt (ownOk N scope) 5 tg, rTs r (relS scope sc) ifs, r.e (relS scope sc) elt with
    | some fi, some p, some t, some e => if ptIn ((ownOf N scope).map (·.2)) p then some (cComp fi ((ownOf N scope).map (·.2)) p t e) else none
    | _, _, _, _ => none) else none
  | _ => none
/-- what a comprehension's parts are -/
theorem rComp_in {r : Rec} (R : RecOk pg N r) {elt : Expr} {gs : List Comprehension} {scope : Scope} {f : SE} (h : rComp pg N r sc elt gs scope = some f) :
    ∃ tg iter ifs fi p t e, gs = [⟨tg, iter, ifs, 0⟩] ∧ f = cComp fi ((ownOf N scope).map (·.2)) p t e ∧ blkC N sc scope (ownOf N scope) = true ∧ notSet iter = true ∧ OkI pg N sc tg iter fi ∧ tgt (ownOk N scope) 5 tg = some p ∧
      ptIn ((ownOf N scope).map (·.2)) p = true ∧ OkTs pg N (relS scope sc) ifs t ∧ OkE pg N (relS scope sc) elt e := by
  unfold rComp at h
  split at h
  · rename_i tg iter ifs k
    split at h
    · rename_i hc
      simp only [Bool.and_eq_true] at hc
      have hk := eq_of_beq hc.1.1
      subst hk
      split at h
      · rename_i fi p t e h1 h2 h3 h4
        split at h
        · rename_i hp
          cases h
          exact ⟨tg, iter, ifs, fi, p, t, e, rfl, rfl, hc.1.2, hc.2, rIter_ok R h1, h2, hp, rTs_ok R h3, R.e _ _ _ h4⟩
        · cases h
      · cases h
    · cases h
  · cases h
/-! subscripts, the rest -/
def rO (r : Rec) (sc : Scope) : Option Expr → Option SO
  | none => some oNone
  | some e => (r.e sc e).map oSome
theorem rO_ok {r : Rec} (R : RecOk pg N r) {e : Option Expr} {f : SO} (h : rO r sc e = some f) : OkO pg N sc e f := by
  unfold rO at h
  split at h
  · cases h; exact okONone
  · rename_i e
    cases q : r.e sc e with
    | none => rw [q] at h; cases h
    | some fa => rw [q] at h; cases h; exact okOSome (R.e _ _ _ q)
def rSub (r : Rec) (sc : Scope) (a b : Expr) : Option SE := match b with
  | .Slice lo hi none _ => (match r.e sc a, rO r sc lo, rO r sc hi with
    | some f, some l, some h => some (cSl f l h)
    | _, _, _ => none)
  | .Slice _ _ (some _) _ => none
  | _ => (match r.e sc a, r.e sc b with
    | some f, some g => some (cOp2 dIx f g)
    | _, _ => none)
theorem rSub_ok {r : Rec} (R : RecOk pg N r) {a b : Expr} {pos : Pos} {f : SE} (h : rSub r sc a b = some f) : OkE pg N sc (.Subscript a b pos) f := by
  unfold rSub at h
  split at h
  · split at h
    · rename_i q1 q2 q3
      cases h
      exact okSl (R.e _ _ _ q1) (rO_ok R q2) (rO_ok R q3)
    · cases h
  · cases h
  · rename_i n1 n2
    split at h
    · rename_i q1 q2
      cases h
      refine okIx ?_ (R.e _ _ _ q1) (R.e _ _ _ q2)
      cases b <;> first | rfl | skip
      rename_i lo hi st p
      cases st with
      | none => exact absurd rfl (n1 lo hi p)
      | some z => exact absurd rfl (n2 lo hi z p)
    · cases h
def rDict (r : Rec) (sc : Scope) (keys : List (Option Expr)) (values : List Expr) : Option SE := match keys, values with
  | [], [] => some (cOpn (gDic []) aNil)
  | k :: keys, vs => (match keysE (k :: keys), mapO (r.e sc) vs with
    | some ks, some fs => if nodupB ks && decide ((k :: keys).length = vs.length) && decide ((k :: keys).length ≤ 15) then some (cOpn (gDic ks) (fs.foldr aCons aNil)) else none
    | _, _ => none)
  | _, _ => none
theorem rDict_ok {r : Rec} (R : RecOk pg N r) {keys : List (Option Expr)} {values : List Expr} {pos : Pos} {f : SE} (h : rDict r sc keys values = some f) : OkE pg N sc (.Dict keys values pos) f := by
  unfold rDict at h
  split at h
  · cases h; exact okDic0
  · split at h
    · rename_i k keys vs ks fs h1 h2
      split at h
      · rename_i hc
        simp only [Bool.and_eq_true, decide_eq_true_eq] at hc
        cases h
        exact okDic h1 hc.1.1 hc.1.2 (by simp) hc.2 (mapO_len h2) fun i e f a b => R.e _ _ _ (mapO_get h2 i e f a b)
      · cases h
    · cases h
  · cases h
def stepE (pg : Pg) (N : List Str) (r : Rec) (sc : Scope) : Expr → Option SE
  | .Name x _ => rName pg N sc x
  | .Constant c _ _ => rConst c
  | .BinOp a op b _ => (match binG op, r.e sc a, r.e sc b with
    | some g, some f, some h => some (cOp2 g f h)
    | _, _, _ => none)
  | .UnaryOp .USub a _ => (r.e sc a).map (cOp1 dNeg)
  | .UnaryOp .Not a _ => (r.e sc a).map (cOp1 gNot)
  | .BoolOp op es _ => (mapO (r.e sc) es).bind (boolE op)
  | .Compare a ops cs _ => rCmp r sc a ops cs
  | .IfExp c a b _ => (match r.t sc c, r.e sc a, r.e sc b with
    | some t, some f, some g => some (cIf t f g)
    | _, _, _ => none)
  | .Tuple es _ _ => if es.all noStar then (mapO (r.e sc) es).map fun fs => cOpn gTupN (aOf fs) else none
  | .List es _ => if es.all noStar then (mapO (r.e sc) es).map fun fs => cOpn gLstN (aOf fs) else none
  | .Subscript a b _ => rSub r sc a b
  | .Call (.Name x _) es [] _ => rCall pg r sc x es
  | .ListComp elt gs scope _ => rComp pg N r sc elt gs scope
  | .Attribute e x _ => if x == ("value" : Str) && notCallE e then (r.e sc e).map (cOp1 (gVal pg.excs)) else none
  | .Dict ks vs _ => rDict r sc ks vs
  | _ => none
def stepT (pg : Pg) (N : List Str) (r : Rec) (sc : Scope) (e : Expr) : Option ST := match e with
  | .UnaryOp .Not a _ => (r.t sc a).map tNotT
  | .BoolOp op es _ => (mapO (r.t sc) es).bind (boolT op)
  | .Compare a ops cs _ => (rCmp r sc a ops cs).map tBl
  | .IfExp .. => none
  | e => (r.e sc e).map tVal
def step (pg : Pg) (N : List Str) (r : Rec) : Rec := ⟨stepE pg N r, stepT pg N r⟩
def comp (pg : Pg) (N : List Str) : Nat → Rec
  | 0 => ⟨fun _ _ => none, fun _ _ => none⟩
  | n + 1 => step pg N (comp pg N n)
theorem stepE_ok {r : Rec} (R : RecOk pg N r) {e : Expr} {f : SE} (h : stepE pg N r sc e = some f) : OkE pg N sc e f := by
  have one : ∀ {a : Expr} {g : SE → SE} {f : SE}, (r.e sc a).map g = some f → ∃ fa, f = g fa ∧ OkE pg N sc a fa := fun {a g f} h => by
    cases q : r.e sc a with
    | none => rw [q] at h; cases h
    | some fa => rw [q] at h; cases h; exact ⟨fa, rfl, R.e _ _ _ q⟩
  unfold stepE at h
  split at h
  · exact rName_ok h
  · exact rConst_ok h
  · split at h
    · rename_i q1 q2 q3
      cases h
      exact okBin (binG_ok q1) (R.e _ _ _ q2) (R.e _ _ _ q3)
    · cases h
  · obtain ⟨fa, rfl, o⟩ := one h
    exact okUn (fun X => unNeg) o
  · obtain ⟨fa, rfl, o⟩ := one h
    exact okNot o
  · rename_i op es pos
    cases q : mapO (r.e sc) es with
    | none => rw [q] at h; cases h
    | some fs => rw [q] at h; exact boolE_ok R q h
  · exact (rCmp_ok R h).1
  · split at h
    · rename_i q1 q2 q3
      cases h
      exact okIf (R.t _ _ _ q1) (R.e _ _ _ q2) (R.e _ _ _ q3)
    · cases h
  · split at h
    · rename_i es k pos hs
      cases q : mapO (r.e sc) es with
      | none => rw [q] at h; cases h
      | some fs => rw [q] at h; cases h; exact okTup (okAs R hs q)
    · cases h
  · split at h
    · rename_i es pos hs
      cases q : mapO (r.e sc) es with
      | none => rw [q] at h; cases h
      | some fs => rw [q] at h; cases h; exact okLst (okAs R hs q)
    · cases h
  · exact rSub_ok R h
  · exact rCall_ok R h
  · obtain ⟨tg, iter, ifs, fi, p, t, e, rfl, rfl, h1, h2, h3, h4, h5, h6, h7⟩ := rComp_in R h
    exact okLc h1 h2 h3 h4 h5 h6 h7
  · split at h
    · rename_i hc
      simp only [Bool.and_eq_true] at hc
      have := eq_of_beq hc.1
      subst this
      obtain ⟨fa, rfl, o⟩ := one h
      exact okVl hc.2 o
    · cases h
  · exact rDict_ok R h
  · cases h
theorem stepT_ok {r : Rec} (R : RecOk pg N r) {e : Expr} {f : ST} (h : stepT pg N r sc e = some f) : OkT pg N sc e f := by
  unfold stepT at h
  split at h
  · rename_i a pos
    cases q : r.t sc a with
    | none => rw [q] at h; cases h
    | some fa => rw [q] at h; cases h; exact okTNot (R.t _ _ _ q)
  · rename_i op es pos
    cases q : mapO (r.t sc) es with
    | none => rw [q] at h; cases h
    | some fs => rw [q] at h; exact (boolT_ok R q h).t
  · rename_i a ops cs pos
    cases q : rCmp r sc a ops cs with
    | none => rw [q] at h; cases h
    | some fa => rw [q] at h; cases h; exact (rCmp_ok R q).2
  · cases h
  · rename_i n1 n2 n3 n4
    cases q : r.e sc e with
    | none => rw [q] at h; cases h
    | some fa =>
      rw [q] at h; cases h
      refine okTVal ?_ (R.e _ _ _ q)
      cases e <;> first | rfl | skip
      · rename_i op es p; exact absurd rfl (n2 op es p)
      · rename_i op a p
        cases op <;> first | rfl | exact absurd rfl (n1 a p)
      · rename_i a b c p; exact absurd rfl (n4 a b c p)
      · rename_i a b c p; exact absurd rfl (n3 a b c p)
theorem comp_ok (n : Nat) : RecOk pg N (comp pg N n) := by
  induction n with
  | zero => exact ⟨fun _ _ _ h => (by cases h), fun _ _ _ h => (by cases h)⟩
  | succ n ih => exact ⟨fun _ _ _ h => stepE_ok ih h, fun _ _ _ h => stepT_ok ih h⟩
end
end EV

namespace EV
open PySem PySem.Spec PyProof.Rows L2

/-! ### from the text to the combinators: statements -/
/-- the names in an expression -/
def nmE : Nat → Expr → List Str
  | 0, _ => []
  | n + 1, e => match e with
    | .Name x _ => [x]
    | .BoolOp _ es _ => es.flatMap (nmE n)
    | .BinOp a _ b _ => nmE n a ++ nmE n b
    | .UnaryOp _ a _ => nmE n a
    | .IfExp a b c _ => nmE n a ++ nmE n b ++ nmE n c
    | .Dict ks vs _ => (ks.filterMap id).flatMap (nmE n) ++ vs.flatMap (nmE n)
    | .Set es _ _ => es.flatMap (nmE n)
    | .ListComp e gs _ _ => nmE n e ++ gs.flatMap fun g => nmE n g.iter ++ g.ifs.flatMap (nmE n)
    | .SetComp e gs _ _ => nmE n e ++ gs.flatMap fun g => nmE n g.iter ++ g.ifs.flatMap (nmE n)
    | .DictComp k v gs _ _ => nmE n k ++ nmE n v ++ gs.flatMap fun g => nmE n g.iter ++ g.ifs.flatMap (nmE n)
    | .Compare a _ cs _ => nmE n a ++ cs.flatMap (nmE n)
    | .Call f es _ _ => nmE n f ++ es.flatMap (nmE n)
    | .Attribute e _ _ => nmE n e
    | .Subscript a b _ => nmE n a ++ nmE n b
    | .Starred e _ => nmE n e
    | .List es _ => es.flatMap (nmE n)
    | .Tuple es _ _ => es.flatMap (nmE n)
    | .Slice a b c _ => (match a with | some a => nmE n a | none => []) ++ (match b with | some b => nmE n b | none => []) ++ (match c with | some c => nmE n c | none => [])
    | _ => []
def mentE (N : List Str) (e : Expr) : List Nat := ((nmE 40 e).filterMap (slot? N)).eraseDups
structure SRec where
  s : Stmt → Option SS
  b : List Stmt → Option SS
section
variable {pg : Pg} {N : List Str} {sc : Scope}
structure SRecOk (pg : Pg) (N : List Str) (sc : Scope) (q : SRec) : Prop where
  b : ∀ ss f, q.b ss = some f → OkSs pg N sc ss f
  s : ∀ st f, q.s st = some f → OkS pg N sc st f
def rAppend (N : List Str) (sc : Scope) (r : Rec) (x m : Str) (e : Expr) (apos cpos : Pos) : Option SS :=
  if visB sc x && plainName x && (apos.endLine == cpos.line) && noStar e then (match slot? N x, r.e sc e with
    | some k, some f => if m == ("append" : Str) then some (sApp k (mentE N e) f) else if m == ("extend" : Str) then some (sExt k (mentE N e) f) else none
    | _, _ => none) else none
theorem rAppend_ok {r : Rec} (R : RecOk pg N r) {x m : Str} {e : Expr} {np apos cpos spos : Pos} {f : SS} (h : rAppend N sc r x m e apos cpos = some f) : OkS pg N sc (.Expr (.Call (.Attribute (.Name x np) m apos) [e] [] cpos) spos) f := by
  unfold rAppend at h
  split at h
  · rename_i hc
    simp only [Bool.and_eq_true] at hc
    split at h
    · rename_i k fe q1 q2
      split at h
      · rename_i hm
        have := eq_of_beq hm
        subst this
        cases h
        exact okApp q1 hc.1.1.1 hc.1.1.2 hc.1.2 hc.2 (R.e _ _ _ q2)
      split at h
      · rename_i hm
        have := eq_of_beq hm
        subst this
        cases h
        exact okExt q1 hc.1.1.1 hc.1.1.2 hc.1.2 hc.2 (R.e _ _ _ q2)
      cases h
    · cases h
  · cases h
def rExprS (N : List Str) (sc : Scope) (r : Rec) (e : Expr) : Option SS :=
  if notComp e then (r.e sc e).map (sExpr (mentE N e)) else none
theorem rExprS_ok {r : Rec} (R : RecOk pg N r) {e : Expr} {pos : Pos} {f : SS} (h : rExprS N sc r e = some f) : OkS pg N sc (.Expr e pos) f := by
  unfold rExprS at h
  split at h
  · rename_i hc
    cases q : r.e sc e with
    | none => rw [q] at h; cases h
    | some fa => rw [q] at h; cases h; exact okExpr hc (R.e _ _ _ q)
  · cases h
def isFnS (sc : Scope) : Bool := match sc.kind with
  | .function => true
  | _ => false
theorem isFnS_ok (h : isFnS sc = true) : sc.kind = .function := by
  unfold isFnS at h
  split at h
  · assumption
  · cases h
/-- name = e; cn: the names of what is to be a cell -/
def rSetS (pg : Pg) (N cn : List Str) (sc : Scope) (r : Rec) (x : Str) (e : Expr) : Option SS :=
  if locB sc x then (match slot? N x with
    | some i => (match e with
      | .ListComp elt gs scope _ => if isFnS sc then (rComp pg N r sc elt gs scope).map (sSet i (mentE N e)) else none
      | e => if notComp e then (match r.e sc e with
        | some f => if cn.contains x then some (sSetC i (mentE N e) f) else some (sSet i (mentE N e) f)
        | none => none) else none)
    | none => none) else none
theorem rSetS_ok {r : Rec} (R : RecOk pg N r) {cn : List Str} {x : Str} {e : Expr} {np pos : Pos} {f : SS} (h : rSetS pg N cn sc r x e = some f) : OkS pg N sc (.Assign [.Name x np] e pos) f := by
  unfold rSetS at h
  split at h
  · rename_i hl
    split at h
    · rename_i i hi
      split at h
      · rename_i elt gs scope p
        split at h
        · rename_i hk
          cases q : rComp pg N r sc elt gs scope with
          | none => rw [q] at h; cases h
          | some fc =>
            rw [q] at h; cases h
            obtain ⟨tg, iter, ifs, fi, p, t, e, rfl, rfl, h1, h2, h3, h4, h5, h6, h7⟩ := rComp_in R q
            exact okSetLc (isFnS_ok hk) hi hl h1 h2 h3 h4 h5 h6 h7
        · cases h
      · split at h
        · rename_i hn
          split at h
          · rename_i fe q
            split at h
            · cases h; exact okSetC hi hl hn (R.e _ _ _ q)
            · cases h; exact okSet hi hl hn (R.e _ _ _ q)
          · cases h
        · cases h
    · cases h
  · cases h
def rSetIx (N : List Str) (sc : Scope) (r : Rec) (x : Str) (i e : Expr) : Option SS :=
  if visB sc x && plainName x && notSlice i then (match slot? N x, r.e sc e, r.e sc i with
    | some k, some f, some g => some (sSetIx k (mentE N e) f (mentE N i) g)
    | _, _, _ => none) else none
theorem rSetIx_ok {r : Rec} (R : RecOk pg N r) {x : Str} {i e : Expr} {np tpos spos : Pos} {f : SS} (h : rSetIx N sc r x i e = some f) : OkS pg N sc (.Assign [.Subscript (.Name x np) i tpos] e spos) f := by
  unfold rSetIx at h
  split at h
  · rename_i hc
    simp only [Bool.and_eq_true] at hc
    split at h
    · rename_i q1 q2 q3
      cases h
      exact okSetIx q1 hc.1.1 hc.1.2 hc.2 (R.e _ _ _ q2) (R.e _ _ _ q3)
    · cases h
  · cases h
def stepS (pg : Pg) (N cn : List Str) (sc : Scope) (r : Rec) (q : SRec) : Stmt → Option SS
  | .Pass _ => some sPass
  | .Expr e _ => (match e with
    | .Call (.Attribute (.Name x _) m apos) [a] [] cpos => rAppend N sc r x m a apos cpos
    | e => rExprS N sc r e)
  | .Assign [.Name x _] e _ => rSetS pg N cn sc r x e
  | .Assign [.Subscript (.Name x _) i _] e _ => rSetIx N sc r x i e
  | .Return (some e) _ => (r.e sc e).map (sRet (mentE N e))
  | .Return none _ => some sRetN
  | .If c a b _ => (match r.t sc c, q.b a, q.b b with
    | some t, some f, some g => some (sIf (mentE N c) t f g)
    | _, _, _ => none)
  | .For tg it body [] _ => if notSet it then (match rIter pg r sc tg it, tgt (locOk N sc) 5 tg, q.b body with
    | some fi, some p, some f => some (sFor (mentE N it) fi p f)
    | _, _, _ => none) else none
  | _ => none
def blockS (s : Stmt → Option SS) : List Stmt → Option SS
  | [] => some sPass
  | [st] => s st
  | st :: sts => match s st, blockS s sts with
    | some f, some g => some (sSeq f g)
    | _, _ => none
def compS (pg : Pg) (N cn : List Str) (sc : Scope) (r : Rec) : Nat → SRec
  | 0 => ⟨fun _ => none, fun _ => none⟩
  | n + 1 => ⟨stepS pg N cn sc r (compS pg N cn sc r n), blockS (stepS pg N cn sc r (compS pg N cn sc r n))⟩
theorem stepS_ok {cn : List Str} {r : Rec} (R : RecOk pg N r) {q : SRec} (Q : SRecOk pg N sc q) {st : Stmt} {f : SS} (h : stepS pg N cn sc r q st = some f) : OkS pg N sc st f := by
  unfold stepS at h
  split at h
  · cases h; exact okPass
  · split at h
    · exact rAppend_ok R h
    · exact rExprS_ok R h
  · exact rSetS_ok R h
  · exact rSetIx_ok R h
  · rename_i e pos
    cases z : r.e sc e with
    | none => rw [z] at h; cases h
    | some fa => rw [z] at h; cases h; exact okRet (R.e _ _ _ z)
  · cases h; exact okRetN
  · split at h
    · rename_i z1 z2 z3
      cases h
      exact okIfS (R.t _ _ _ z1) (Q.b _ _ z2) (Q.b _ _ z3)
    · cases h
  · split at h
    · rename_i hn
      split at h
      · rename_i z1 z2 z3
        cases h
        exact okFor hn (rIter_ok R z1) z2 (Q.b _ _ z3)
      · cases h
    · cases h
  · cases h
theorem blockS_ok {s : Stmt → Option SS} (hs : ∀ st f, s st = some f → OkS pg N sc st f) : ∀ {ss : List Stmt} {f : SS}, blockS s ss = some f → OkSs pg N sc ss f
  | [], f, h => by cases h; exact okSsNil
  | [st], f, h => okSsOne (hs _ _ h)
  | st :: st2 :: sts, f, h => by
    unfold blockS at h
    split at h
    · rename_i f1 g h1 h2
      cases h
      exact okSsCons (hs _ _ h1) (blockS_ok hs h2)
    · cases h
theorem compS_ok {cn : List Str} {r : Rec} (R : RecOk pg N r) (n : Nat) : SRecOk pg N sc (compS pg N cn sc r n) := by
  induction n with
  | zero => exact ⟨fun _ _ h => (by cases h), fun _ _ h => (by cases h)⟩
  | succ n ih => exact ⟨fun _ _ h => blockS_ok (fun _ _ z => stepS_ok R ih z) h, fun _ _ h => stepS_ok R ih h⟩
/-- a def's body -/
def compD (pg : Pg) (N cn : List Str) (sc : Scope) (body : List Stmt) : Option SS := (compS pg N cn sc (comp pg N 40) 12).b body
theorem compD_ok {cn : List Str} {body : List Stmt} {f : SS} (h : compD pg N cn sc body = some f) : OkSs pg N sc body f := (compS_ok (comp_ok 40) 12).b body f h
end
end EV

namespace EV
open PySem PySem.Spec PyProof.Rows L2

/-! ### calls -/
/-- a def as a function on data: its parameters, its slots, its body -/
structure Fd where
  n : Nat
  N : Nat
  f : SS
def initE (N : Nat) (ds : List D) : SEn := ds.map (fun d => some (d, false)) ++ List.replicate (N - ds.length) none
def endF (fl : Fl) (S : Cells) : R B := match fl with
  | .rt b => .ok b S
  | .nx _ => .ok (.non, false) S
  | _ => .no
def runF (g : Fd) (ca : Ca) (ds : List D) (S : Cells) : R B := if ds.length = g.n then (g.f ca (initE g.N ds) S).bind endF else .no
def caF (tab : Str → Option Fd) : Nat → Ca
  | 0 => fun _ _ _ => .no
  | k + 1 => fun fk ds S => match tab fk.1 with
    | some g => runF g (caF tab k) ds S
    | none => .no
structure PgFix (P : Program) (w : World) (K : PySem.W.Frag) (mg : Str → Option Value) (pg : Pg) (tab : Str → Option Fd) : Prop where
  fn : ∀ x i, pg.fns.lookup x = some i → ∃ (N : List Str) (f : Addr) (fd : FuncData) (qual : Str) (params : Arguments) (body : List Stmt) (scope : Scope) (dvs : List V) (kws : List (Str × V)) (g : SS),
    mg x = some (.ref f) ∧ FunD K x qual params body scope dvs kws f fd ∧ FnScope N i.ps scope ∧ OkSs pg N scope body g ∧ tab x = some ⟨i.ps.length, N.length, g⟩ ∧
    ∀ n, n + i.dfl.length ≥ i.ps.length → n ≤ i.ps.length → ∃ dvs us, Vals dvs us ∧ Binds K fd i.ps us ∧ ∀ H m, RepL K H m (i.dfl.drop (n + i.dfl.length - i.ps.length)) dvs
  con : ∀ x d, pg.cons.lookup x = some d → ∃ u v, mg x = some u ∧ RelV v u ∧ ∀ H m, Rep K H m d v
  blt : ∀ x, x ∈ pg.blts → mg x = none
  exc : ∀ x, x ∈ pg.excs → EVX.ErrC P K mg x
  sub : ∀ c x, c ∈ pg.excs → x ∈ pg.excs → PySem.W.kitOne K (.ref (He.ga K c)) (.ref (He.ga K x)) = some (subE c x)
  ve : ∀ c, c ∈ pg.excs → PySem.W.kitOne K (.ref (He.ga K c)) (.type "ValueError") = some true
  sys : (K.lookup sysModules).isSome = true
section
variable {P : Program} {w : World} {K : PySem.W.Frag} {mg : Str → Option Value} {base : Heap} {pg : Pg} {tab : Str → Option Fd}
theorem ctx_of {N : List Str} {qual : Str} {scope : Scope} {f : Addr} {cdv : Value} {A : Around} {outer : List Env} {s : Shared} {H : Hp} {E : XK} {ca : Ca} {k : Nat} (nd : N.Nodup) (hr : Rm k (A.deeper (envOfC qual scope s.heap.objs.size f cdv))) (L : PgOk P w K mg base pg ca k) :
    CtxS (cxOf (CX P w) P w K mg base N qual scope f cdv A outer s H E) scope N pg ca k E where
  c := { sc := rfl, names := rfl, nd := nd, calm := rfl, room := hr, lib := L, tk := takes_of rfl rfl rfl rfl }
  fn := fun _ => rfl
  own := passes_of (K := fun e s'' => CX P w outer H s E e s'') rfl
theorem senv_init {H F : Hp} {m : List Addr} {N : List Str} {ds : List D} {vs : List V} (r : RepL K F m ds vs) : SEnv K H F H m (initE N.length ds) (start N vs) := by
  have hl := r.length
  refine ⟨by unfold initE L2.start; simp [hl], fun i b hi => ?_, fun i j a b p hij h1 h2 => ?_⟩
  · unfold initE at hi
    by_cases h : i < ds.length
    · rw [List.getElem?_append_left (by simpa using h), List.getElem?_map] at hi
      cases q : ds[i]? with
      | none => rw [q] at hi; cases hi
      | some d =>
        rw [q] at hi; cases hi
        obtain ⟨v, hv, rv⟩ := r.get q
        refine ⟨v, ?_, rv⟩
        unfold L2.start
        rw [List.getElem?_append_left (by simp; omega), List.getElem?_map, hv]
        rfl
    · rw [List.getElem?_append_right (by simpa using h)] at hi
      rw [List.getElem?_replicate] at hi
      split at hi <;> cases hi
  · unfold initE at h1
    by_cases h : i < ds.length
    · rw [List.getElem?_append_left (by simpa using h), List.getElem?_map] at h1
      cases q : ds[i]? with
      | none => rw [q] at h1; cases h1
      | some d => rw [q] at h1; cases h1
    · rw [List.getElem?_append_right (by simpa using h)] at h1
      rw [List.getElem?_replicate] at h1
      split at h1 <;> cases h1
theorem pgok (fx : PgFix P w K mg pg tab) : ∀ k, PgOk P w K mg base pg (caF tab k) k
  | 0 => {
    fn := fun x i hi => by
      obtain ⟨N, f, fd, qual, params, body, scope, dvs, kws, g, hm, F, S, o, ht, hb⟩ := fx.fn x i hi
      exact ⟨f, fd, hm, F.kp, ⟨fun vs H Q E h => h.1, fun A outer s H args us vs Q E _ _ _ _ h => by
        obtain ⟨_, ds, S, F, m, _, _, q⟩ := h
        exact q.elim⟩, hb⟩
    con := fx.con, blt := fx.blt, exc := fx.exc, sub := fx.sub, ve := fx.ve, sys := fx.sys }
  | k + 1 => {
    fn := fun x i hi => by
      obtain ⟨N, f, fd, qual, params, body, scope, dvs, kws, g, hm, F, S, o, ht, hb⟩ := fx.fn x i hi
      have L := pgok fx k
      refine ⟨f, fd, hm, F.kp, fnG_of F S (fun vs H Q E h => h.1) (fun cdv A outer s H vs Q E hr h => ?_), hb⟩
      obtain ⟨hl, ds, S1, F1, m, wd, rl, q⟩ := h
      refine ⟨tS K E F1 H m (g (caF tab k)), o _ _ _ E F1 H m (ctx_of S.nd hr L), initE N.length ds, S1, F1, m, Gr.refl wd, senv_init rl, ?_⟩
      have q2 : Post K (fun c d _ H' => E c d H') [] F1 H m (runF ⟨i.ps.length, N.length, g⟩ (caF tab k) ds S1) fun b _ F' H' m' => ∀ v, RepB K H F' H' m' b v → Q v H' := by
        have e : caF tab (k + 1) (x, none) ds S1 = runF ⟨i.ps.length, N.length, g⟩ (caF tab k) ds S1 := by
          show (match tab x with | some g => runF g (caF tab k) ds S1 | none => .no) = _
          rw [ht]
        rw [← e]; exact q
      unfold runF at q2
      split at q2
      · show PostS K E F1 H m (g (caF tab k) (initE N.length ds) S1) _
        have q3 : Post K (fun c d _ H' => E c d H') [] F1 H m ((g (caF tab k) (initE N.length ds) S1).bind endF) _ := q2
        cases e : g (caF tab k) (initE N.length ds) S1 with
        | no => rw [e] at q3; exact q3
        | exn c d S2 => rw [e] at q3; exact q3
        | ok fl S2 =>
          rw [e] at q3
          cases fl with
          | nx ρ => exact fun σ F2 H2 m2 g2 _ => q3 F2 H2 m2 g2 .non (by show Rep _ _ _ _ _; simp only [Rep])
          | rt b => exact fun v F2 H2 m2 g2 rv => q3 F2 H2 m2 g2 v rv
          | bk ρ => exact q3.elim
          | ct ρ => exact q3.elim
      · exact q2.elim
    con := fx.con, blt := fx.blt, exc := fx.exc, sub := fx.sub, ve := fx.ve, sys := fx.sys }
end
end EV

namespace EV
open PySem PySem.Spec PyProof.Rows L2

/-! ### the law's end -/
section
variable {P : Program} {w : World} {K : PySem.W.Frag} {mg mb : Str → Option Value} {k : Nat} {law a : Addr} {x : Str} {sp : Sp} {s : Shared} {vs : List Value} {ns : List Int}
def TrueEnd (s : Shared) (r : Result) (s' : Shared) : Prop := r = .ok (.ret (.bool true)) ∧ OldK s.heap s'.heap ∧ s'.os = s.os ∧ AllBare s'.gens
def noE : XK := fun _ _ _ => False
theorem end_core (kin : K.In s.heap) (gl : s.heap.Ns mainGlobals mg) (bl : s.heap.Ns builtinsNs mb) (blb : ∀ y : Str, y ≠ "__name__" → mb y = bootBuiltins y) (nl : s.heap.NoLimit) (nog : s.gens = #[])
    (hobj : s.heap.get? a = some { cls := .type "list", data := .seq vs.toArray }) (rm : Rm k callerA)
    (FG : ∀ base : Heap, ∃ fd, FnG P w K mg base (CX P w) k law fd [x] sp ∧ Binds K fd [x] [])
    (H : Hp) (only : Only H) (hok : HOk P w H s.heap) (alone : ∀ b, H b ≠ none → b = a) (apart : H a ≠ none → K.lookup a = none) (good : sp [.ref a] H (fun v _ => v = .bl true) noE) :
    codeAny (model P w) callerA (.call (.ref law) ⟨[.ref a], []⟩) (TrueEnd s) s := by
  have put : ∀ {b : Addr} {o : Obj}, s.heap.get? b = some o → H b = none → (hidT s.heap H).get? b = some o := fun z n => hidT_get z n
  have clear : ∀ {b : Addr} {o : Obj}, s.heap.get? b = some o → (∀ es ep, o.data = .dict es ep → H b = none) := fun {b o} z es ep q => by
    by_cases n : H b = none
    · exact n
    · have hb := alone b n
      rw [hb, hobj] at z
      cases z
      cases q
  have ns1 : ∀ {b : Addr} {m : Str → Option Value}, s.heap.Ns b m → (hidT s.heap H).Ns b m := fun {b m} ⟨o, es, ep, z, q, t⟩ => ⟨o, es, ep, put z (clear z es ep q), q, t⟩
  have kin1 : K.In (hidT s.heap H) := fun b o z => put (kin b o z) (by
    by_cases n : H b = none
    · exact n
    · have hb := alone b n
      subst hb
      rw [apart n] at z
      cases z)
  obtain ⟨mc, nl1, nl2⟩ := nl
  have md : Mod K mg (hidT s.heap H) := ⟨kin1, ns1 gl, ⟨mb, ns1 bl, blb⟩, mc, ns1 nl1, nl2⟩
  have env : Env0 P w K mg (hidT s.heap H) callerA [] s H := ⟨rfl, md, fun b o z => of_hidT z, Nat.le_of_eq (hidT_size _ _), trivial, fun b z => absurd (show b ∈ ([] : List Addr) from z) (List.not_mem_nil), hok, .of_eq nog⟩
  obtain ⟨fd, FR, bind⟩ := FG (hidT s.heap H)
  refine codeAny_mono (FR.run callerA [] s H _ [.ref a] [.ref a] _ noE rm env (bind s [.ref a] kin rfl) (.cons rfl .nil) good) fun r s' h => ?_
  have none_in : ∀ b : Addr, b ∉ frs [] := fun b z => absurd (show b ∈ ([] : List Addr) from z) (List.not_mem_nil)
  cases r with
  | error e =>
    obtain ⟨_, _, _, _, _, _, _, _, _, _, _, _, z⟩ := h
    exact z.elim
  | ok fl =>
    cases fl with
    | ret u =>
      obtain ⟨v, H', h1, h2, un, hok2, rv, q⟩ := h
      cases (show v = .bl true from q)
      cases (show u = Value.bool true from rv)
      refine ⟨rfl, OldK.of_keep fun b o z => ?_, h1, h2⟩
      rcases only b with n | ⟨ob, xs, f⟩
      · exact un.keep b o z n (none_in b) (List.not_mem_nil)
      · have f1 := (hok b _ f).1
        have f2 := (hok2 b _ (un.frzs b ob _ f)).1
        rw [z] at f1
        cases f1
        exact f2
    | next => exact h.elim
    | brk => exact h.elim
    | cont => exact h.elim
theorem end_call (kin : K.In s.heap) (gl : s.heap.Ns mainGlobals mg) (bl : s.heap.Ns builtinsNs mb) (blb : ∀ y : Str, y ≠ "__name__" → mb y = bootBuiltins y) (nl : s.heap.NoLimit) (nog : s.gens = #[])
    (hobj : s.heap.get? a = some { cls := .type "list", data := .seq vs.toArray }) (iv : IntsAre vs ns) (hlen : ns.length ≤ sizeLine) (rm : Rm k callerA)
    (FG : ∀ base : Heap, ∃ fd, FnG P w K mg base (CX P w) k law fd [x] sp ∧ Binds K fd [x] [])
    (good : ∀ H : Hp, SqL K H a (ns.map V.int) → sp [.ref a] H (fun v _ => v = .bl true) noE) : codeAny (model P w) callerA (.call (.ref law) ⟨[.ref a], []⟩) (TrueEnd s) s := by
  have rv := vals_ints iv
  have hl2 := iv.length
  by_cases hk : K.lookup a = none
  · let H : Hp := fun b => if b = a then some (.frz { cls := .type "list", data := .seq vs.toArray } (.lst (ns.map V.int))) else none
    have ha : H a = some (.frz { cls := .type "list", data := .seq vs.toArray } (.lst (ns.map V.int))) := if_pos rfl
    have hn : ∀ b, b ≠ a → H b = none := fun b nb => if_neg nb
    refine end_core kin gl bl blb nl nog hobj rm FG H (fun b => ?_) (fun b o z => ?_) (fun b z => ?_) (fun _ => hk) (good H (.inl (.inr ⟨_, ha⟩)))
    · by_cases nb : b = a
      · subst nb; exact .inr ⟨_, _, ha⟩
      · exact .inl (hn b nb)
    · by_cases nb : b = a
      · subst nb
        rw [ha] at z
        cases z
        exact ⟨hobj, by simpa using hlen, vs, _, rv, hobj⟩
      · rw [hn b nb] at z; cases z
    · by_cases nb : b = a
      · exact nb
      · exact absurd (hn b nb) z
  · obtain ⟨o, ho⟩ := Option.ne_none_iff_exists'.mp hk
    have e := kin a o ho
    rw [hobj] at e
    cases e
    refine end_core kin gl bl blb nl nog hobj rm FG (fun _ => none) (fun b => .inl rfl) (fun b o z => by cases z) (fun b z => absurd rfl z) (fun z => absurd rfl z) (good _ (.inr ⟨_, vs.toArray, _, ho, rfl, rfl, rfl, ?_, by simpa using rv⟩))
    rw [List.size_toArray, hl2]; exact hlen
end
/-- a law: F gives the written part and what the evaluator says -/
theorem walk_ev {l : PySem.W.OpenLaw} {n k : Nat} {q : Program} {loose : List Str} {XP : (Str → Option Value) → Heap → Prop} {YP : World → Heap → Prop} {d : DefRec} {x : Str} {pg : Pg} {tab : Str → Option Fd}
    (hn : l.most = some n) (hn2 : n ≤ sizeLine) (hdf : d.params.defaults = []) (rm : Rm k callerA)
    (F : ∀ (w : World) (mg : Str → Option Value) (h : Heap), YP w h → h.Ns mainGlobals mg → ∃ K : PySem.W.Frag, K.In h ∧ PgFix l.prog w K mg pg tab)
    (hl : pg.fns.lookup d.name = some ⟨[x], []⟩)
    (ev : ∀ ns : List Int, ns.length ≤ n → ∃ S, caF tab k (d.name, none) [.scr ns] [] = .ok (.bl true, false) S) :
    PySem.W.WalkO q loose XP YP l.row.toRowW d [] (fun f vs => PySem.call f vs) := by
  refine Att.attach_call hn hdf fun w s₀ s₁ mg mb fa o pm cd doc a vs ns G Y ho hd hcd hmg hobj hints hlen hg => ?_
  obtain ⟨K, kin, fx⟩ := F w mg _ Y G.T.g
  have FGs : ∀ base : Heap, ∃ fd, FnG l.prog w K mg base (CX l.prog w) k fa fd [x] (spOf K (caF tab k) (d.name, none) 1) ∧ Binds K fd [x] [] := fun base => by
    obtain ⟨f, fd, h1, _, g, hb⟩ := (pgok (base := base) fx k).fn d.name ⟨[x], []⟩ hl
    rw [hmg] at h1
    cases h1
    obtain ⟨dvs, us, r1, b1, r2⟩ := hb 1 (by simp) (by simp)
    have e1 : dvs = [] := by
      have := (r2 (fun _ => none) []).length
      simp at this
      exact List.eq_nil_of_length_eq_zero this.symm
    subst e1
    cases r1
    exact ⟨fd, g, b1⟩
  refine end_call kin G.T.g G.T.b G.T.builtins G.T.nolimit hg hobj hints (Nat.le_trans hlen hn2) rm FGs fun H hS => ?_
  obtain ⟨S, e⟩ := ev ns hlen
  refine ⟨rfl, [.scr ns], [], H, [], ⟨fun _ _ z => z, rfl, .nil, fun i a ds z => by simp at z, fun i ds z => by simp at z⟩, ?_, ?_⟩
  · refine .cons ?_ .nil
    simp only [Rep]
    exact ⟨a, rfl, hS, Nat.le_trans hlen hn2⟩
  · rw [e]
    intro F' H' m' _ v rv
    have rv' : Rep K F' m' (.bl true) v := rv
    simpa only [Rep] using rv'
end EV

namespace EV
open PySem PySem.Spec PyProof.Rows L2

/-! ### the head's facts -/
/-- the errors' __init__ where the run has laid it -/
def iniA (K : PySem.W.Frag) : Addr := He.ma K (He.ga K "LotError") "__init__"
abbrev IniW : Type := Option (Str × Str × Arguments × FuncBody × Scope × Addr × List Str × Addr)
def iniW (K : PySem.W.Frag) (f : Addr) : IniW := match K.lookup f with
  | some ⟨_, _, .func fd, _⟩ => some (fd.name, fd.qualname, fd.params, fd.body, fd.scope, fd.globals, fd.closure.map (·.1), fd.builtins)
  | _ => none
def posOf : List Stmt → List Pos
  | [.Expr (.Call (.Attribute (.Call (.Name _ q0) _ _ q1) _ q2) [.Name _ q3] _ q4) q5, .Assign [.Attribute (.Name _ q6) _ q7] (.Name _ q8) q9] => [q0, q1, q2, q3, q4, q5, q6, q7, q8, q9]
  | _ => []
/-- the def in an error class's text -/
def iniS : Stmt → Stmt
  | .ClassDef _ _ _ (st :: _) _ _ _ _ _ _ _ => st
  | st => st
def parPos (a : Arguments) : List Pos := a.args.map (·.pos)
def iniVal (st : Stmt) : IniW := some ("__init__", "LotError.__init__", EVX.initPars ((parPos (defArgs st)).getD 0 default) ((parPos (defArgs st)).getD 1 default), .stmts (EVX.initBody (posOf (defBody st))), EVX.initScope, mainGlobals, ["__class__"], builtinsNs)
def baseB (file : Str) (K : PySem.W.Frag) (D f : Addr) : Bool :=
  (match K.lookup f with
    | some ⟨_, _, .func fd, _⟩ => (match fd.code with
      | .ref cda => PySem.W.codeIn K (.ref cda) "LotError.__init__" && (match K.lookup cda with
        | some ⟨_, _, .fields vs, _⟩ => (match (vs[2]? : Option Value) with
          | some (.str g _) => decide (g = file)
          | _ => false)
        | _ => false)
      | _ => false) && (match fd.defaults with
      | .none => true
      | _ => false) && (match fd.closure with
      | [(_, cc)] => (match K.lookup cc with
        | some ⟨_, _, .cell (some (.ref d)), _⟩ => decide (d = D)
        | _ => false)
      | _ => false)
    | _ => false) && (PySem.W.clsIn K D).isSome && He.eqO (PySem.W.nsIn K mainGlobals "super") (some none) && He.eqO (PySem.W.nsIn K cStatics "thirdparty.any") (some none) &&
  decide (PySem.W.typeIn K (.ref f) = some (.type "function"))
theorem base_ok {P : Program} {K : PySem.W.Frag} {D f : Addr} {st : Stmt} (h : baseB P.main.file K D f = true) (e : iniW K f = iniVal st) (hp : (((posOf (defBody st)).getD 2 default).endLine == ((posOf (defBody st)).getD 4 default).line) = true) (ht : (P.main.scope.names.lookup ("super" : Str)).isSome = false) :
    EVX.Base P K D f ∧ PySem.W.typeIn K (.ref f) = some (.type "function") := by
  unfold baseB at h
  simp only [Bool.and_eq_true] at h
  obtain ⟨⟨⟨⟨h1, h2⟩, h3⟩, h4⟩, h5⟩ := h
  refine ⟨⟨?_, Option.isSome_iff_exists.mp h2, He.eqO_ok h3, He.eqO_ok h4, ht⟩, of_decide_eq_true h5⟩
  split at h1
  · rename_i oc od fd osl lk
    simp only [Bool.and_eq_true] at h1
    obtain ⟨⟨c1, c2⟩, c3⟩ := h1
    split at c1
    · rename_i cda hcode
      simp only [Bool.and_eq_true] at c1
      obtain ⟨c4, c5⟩ := c1
      split at c5
      · rename_i ccl cdd vs ccs lc
        split at c5
        · rename_i g tf hvs
          have hg := of_decide_eq_true c5
          subst hg
          split at c2
          · rename_i hdef
            split at c3
            · rename_i y cc hclo
              split at c3
              · rename_i cl cld d csl lcc
                have hd := of_decide_eq_true c3
                subst hd
                unfold iniW iniVal at e
                rw [lk] at e
                obtain ⟨n1, n2, n3, n4, n5, n6, n7, n8, n9, n10, n11, n12, n13, n14, n15⟩ := fd
                simp only [Option.some.injEq, Prod.mk.injEq] at e hcode hdef hclo
                obtain ⟨e1, e2, e3, e4, e5, e6, e7, e8⟩ := e
                subst e1 e2 e3 e4 e5 e6 hcode hdef hclo e8
                have ey : y = "__class__" := by simpa using e7
                subst ey
                exact ⟨oc, od, osl, _, _, _, _, n9, n10, n11, n12, n14, cda, cc, ccl, cdd, ccs, vs, tf, cl, cld, csl, lk, c4, lc, hvs, lcc, hp⟩
              · cases c3
            · cases c3
          · cases c2
        · cases c5
      · cases c5
    · cases c1
  · cases h1
def errB (K : PySem.W.Frag) (D f C : Addr) : Bool :=
  PySem.W.excInitIn K C PySem.HandSPX.veTail "ValueError.__new__" && (match PySem.W.clsIn K C with
    | some cd => PySem.HandSPX.refsVE cd.mro && cd.hasDict
    | none => false) && decide (PySem.W.mroIn K C (.ref D) = some true) && He.eqO (PySem.W.ks_superIn K C D "__init__") (some (some (.builtin "ValueError.__init__"))) && decide (PySem.W.subIn K (.ref C) (.type "ValueError") = some true) &&
  He.eqO (PySem.W.findIn K (.ref C) "value") (some none) && He.eqO (PySem.W.findIn K (.ref C) "__setattr__") (some (some (.builtin "object.__setattr__"))) && He.eqO (PySem.W.findIn K (.ref C) "__init__") (some (some (.ref f))) &&
  PySem.W.keepIn K (.ref C) && decide (PySem.W.subIn K (.ref C) (.type "BaseException") = some true) && decide (PySem.W.typeIn K (.ref C) = some (.type "type")) && xfB K C &&
  He.eqO (PySem.W.findIn K (.ref C) "__class__") (some (some (.builtin "object.__class__"))) && decide (PySem.W.mroIn K C (.type "object") = some true) && decide (PySem.W.kitOne K (.ref C) (.type "ValueError") = some true)
def descB (K : PySem.W.Frag) : Bool := He.eqO (PySem.W.specialIn K (.builtin "object.__class__") "__get__") (some (some (.builtin "getset_descriptor.__get__"))) && decide (PySem.W.takesIn K (.builtin "object.__class__") = some true)
theorem err_ok {P : Program} {K : PySem.W.Frag} {mg : Str → Option Value} {x : Str} {D f : Addr} (hm : mg x = some (.ref (He.ga K x))) (h : errB K D f (He.ga K x) = true) (hd : descB K = true) (b : EVX.Base P K D f) (tf : PySem.W.typeIn K (.ref f) = some (.type "function")) :
    EVX.ErrC P K mg x ∧ PySem.W.kitOne K (.ref (He.ga K x)) (.type "ValueError") = some true := by
  unfold errB at h
  simp only [Bool.and_eq_true] at h
  obtain ⟨⟨⟨⟨⟨⟨⟨⟨⟨⟨⟨⟨⟨⟨h1, h2⟩, h3⟩, h4⟩, h5⟩, h6⟩, h7⟩, h8⟩, h9⟩, h10⟩, h11⟩, h12⟩, h13⟩, h14⟩, h15⟩ := h
  unfold descB at hd
  simp only [Bool.and_eq_true] at hd
  have m : ∃ cd, PySem.W.clsIn K (He.ga K x) = some cd ∧ PySem.HandSPX.refsVE cd.mro = true ∧ cd.hasDict = true := by
    cases q : PySem.W.clsIn K (He.ga K x) with
    | none => rw [q] at h2; cases h2
    | some cd =>
      rw [q] at h2
      simp only [Bool.and_eq_true] at h2
      exact ⟨cd, rfl, h2.1, h2.2⟩
  exact ⟨⟨⟨D, f, b, ⟨h1, m, of_decide_eq_true h3, He.eqO_ok h4, of_decide_eq_true h5, He.eqO_ok h6, He.eqO_ok h7⟩, He.eqO_ok h8, tf⟩, hm, h9, of_decide_eq_true h10, of_decide_eq_true h11, xfB_ok h12, He.eqO_ok h6, He.eqO_ok h13, He.eqO_ok hd.1, of_decide_eq_true hd.2, of_decide_eq_true h14⟩, of_decide_eq_true h15⟩
end EV

namespace EV
open PySem PySem.Spec PyProof.Rows L2

/-! ### the Hook -/
structure Hd where
  fn : List He.DefD
  free : List Str
  excs : List Str
  cons : List (Str × D)
  file : Str
  ini : Stmt
/-- the errors' places are apart, each is over itself and LotError alone -/
def mroB (K : PySem.W.Frag) (D C : Addr) : Bool := match PySem.W.clsIn K C with
  | some cd => decide (cd.mro = .ref C :: (if C = D then PySem.HandSPX.veTail else .ref D :: PySem.HandSPX.veTail))
  | none => false
def nodupA : List Addr → Bool
  | [] => true
  | a :: as => !(as.any fun b => Nat.beq b a) && nodupA as
def valB (K : PySem.W.Frag) (u : Value) : D → Bool
  | .int i => (match u with
    | .int j _ => decide (j = i)
    | _ => false)
  | .str x => (match u with
    | .str y _ => decide (y = x) && decide (x.length ≤ 16777216) && cpOk x
    | _ => false)
  | _ => false
def valsB (K : PySem.W.Frag) : List Value → List D → Bool
  | [], [] => true
  | u :: us, d :: ds => valB K u d && valsB K us ds
  | _, _ => false
def conB (K : PySem.W.Frag) (x : Str) (d : D) : Bool := match PySem.W.nsIn K mainGlobals x with
  | some (some u) => (match d with
    | .tup ds => (match u with
      | .ref a => (match K.lookup a with
        | some ⟨.type c, _, .seq its _, _⟩ => decide (c = "tuple") && decide (its.size ≤ sizeLine) && valsB K its.toList ds
        | _ => false)
      | _ => false)
    | d => valB K u d)
  | _ => false
def excB (K : PySem.W.Frag) (h : Hd) : Bool := match h.excs with
  | [] => true
  | _ => baseB h.file K (He.ga K "LotError") (iniA K) && descB K && nodupA (h.excs.map (He.ga K)) && (h.excs.all fun x => (He.Fa.glo x).ok K && errB K (He.ga K "LotError") (iniA K) (He.ga K x) && mroB K (He.ga K "LotError") (He.ga K x)) &&
    h.excs.contains "LotError"
def factB (h : Hd) (K : PySem.W.Frag) : Bool := (h.fn.all fun d => (He.Fa.glo d.name).ok K && d.ok K) && (h.free.all fun x => (He.Fa.free x).ok K) && excB K h && (h.cons.all fun q => conB K q.1 q.2) && (K.lookup sysModules).isSome
abbrev AlV : Type := Bool × List He.FnW × IniW
def obsV (h : Hd) (K : PySem.W.Frag) : AlV := (factB h K, h.fn.map fun d => He.fnW K d.at_, match h.excs with
  | [] => none
  | _ => iniW K (iniA K))
def valV' (h : Hd) : AlV := (true, h.fn.map He.DefD.val, match h.excs with
  | [] => none
  | _ => iniVal h.ini)
def asV (g : Addr → Option Obj) : Nat → List Addr
  | 0 => [mainGlobals, cStatics, sysModules]
  | n + 1 => He.growD g (asV g n)
def obsVG (n : Nat) (h : Hd) (g : Addr → Option Obj) : AlV := obsV h (He.frG g (asV g n))
def hookV (n : Nat) (h : Hd) : PySem.W.Hook where
  α := AlV
  obs := fun s => obsVG n h s.heap.get?
  val := fun _ => valV' h
  says := fun _ hp => ∃ K : PySem.W.Frag, K.In hp ∧ obsV h K = valV' h
  of := fun _ _ e => ⟨_, He.frG_in, e⟩
  keeps := fun _ _ _ ⟨K, hK, c⟩ k => ⟨K, PySem.W.Frag.In.keeps hK k, c⟩
theorem obsVG_eq {n : Nat} {h : Hd} {g : Addr → Option Obj} {s : Shared} (e : ∀ a, g a = s.heap.get? a) : obsVG n h g = (hookV n h).obs s := by
  have e' : g = s.heap.get? := funext e
  rw [e']
  rfl
/-! ### what they say -/
theorem nodupA_ok : ∀ {xs : List Str} {f : Str → Addr}, nodupA (xs.map f) = true → ∀ a b, a ∈ xs → b ∈ xs → f a = f b → a = b
  | [], f, h, a, b, ha, hb, e => by cases ha
  | x :: xs, f, h, a, b, ha, hb, e => by
    simp only [List.map_cons, nodupA, Bool.and_eq_true, Bool.not_eq_true'] at h
    have out : ∀ y, y ∈ xs → f y ≠ f x := fun y hy q => by
      have := List.any_eq_false.mp h.1 (f y) (List.mem_map_of_mem hy)
      rw [q] at this
      exact this (Nat.beq_refl _)
    rcases List.mem_cons.mp ha with ea | ha1
    · rcases List.mem_cons.mp hb with eb | hb1
      · rw [ea, eb]
      · rw [ea] at e
        exact absurd e.symm (out b hb1)
    · rcases List.mem_cons.mp hb with eb | hb1
      · rw [eb] at e
        exact absurd e (out a ha1)
      · exact nodupA_ok h.2 a b ha1 hb1 e
theorem valB_ok {K : PySem.W.Frag} {u : Value} {d : D} (h : valB K u d = true) : ∃ v, RelV v u ∧ ∀ H m, Rep K H m d v := by
  unfold valB at h
  split at h
  · split at h
    · rename_i i j t
      have := of_decide_eq_true h
      subst this
      exact ⟨.int _, ⟨t, rfl⟩, fun H m => rep_int _⟩
    · cases h
  · split at h
    · rename_i x y t
      simp only [Bool.and_eq_true, decide_eq_true_eq] at h
      obtain ⟨⟨rfl, h2⟩, h3⟩ := h
      exact ⟨.str _, ⟨t, rfl⟩, fun H m => by simp only [Rep]; rw [line24]; exact ⟨trivial, h2, h3⟩⟩
    · cases h
  · cases h
theorem valsB_ok {K : PySem.W.Frag} : ∀ {us : List Value} {ds : List D}, valsB K us ds = true → ∃ vs, Vals vs us ∧ ∀ H m, RepL K H m ds vs
  | [], [], _ => ⟨[], .nil, fun _ _ => .nil⟩
  | [], _ :: _, h => by cases h
  | _ :: _, [], h => by cases h
  | u :: us, d :: ds, h => by
    simp only [valsB, Bool.and_eq_true] at h
    obtain ⟨v, r, q⟩ := valB_ok h.1
    obtain ⟨vs, rs, qs⟩ := valsB_ok h.2
    exact ⟨v :: vs, .cons r rs, fun H m => .cons (q H m) (qs H m)⟩
theorem conB_ok {K : PySem.W.Frag} {hp : Heap} {mg : Str → Option Value} {x : Str} {d : D} (X : K.In hp) (G : hp.Ns mainGlobals mg) (h : conB K x d = true) : ∃ u v, mg x = some u ∧ RelV v u ∧ ∀ H m, Rep K H m d v := by
  unfold conB at h
  split at h
  · rename_i u hu
    have hm := PySem.W.mg_of X G hu
    split at h
    · split at h
      · rename_i ds a
        split at h
        · rename_i c dd its n sl lk
          simp only [Bool.and_eq_true, decide_eq_true_eq] at h
          obtain ⟨⟨rfl, h2⟩, h3⟩ := h
          obtain ⟨vs, rs, qs⟩ := valsB_ok h3
          refine ⟨_, .ref a, hm, rfl, fun H m => ?_⟩
          simp only [Rep]
          refine ⟨a, vs, rfl, .inr ⟨_, its, n, lk, rfl, rfl, h2, rs⟩, ?_, qs H m⟩
          rw [rs.length, Array.length_toList]
          exact h2
        · cases h
      · cases h
    · obtain ⟨v, r, q⟩ := valB_ok h
      exact ⟨u, v, hm, r, q⟩
  · cases h
theorem kit_sub {K : PySem.W.Frag} {D C X : Addr} (hC : mroB K D C = true) (hX : mroB K D X = true) (ht : PySem.W.typeIn K (.ref X) = some (.type "type")) : PySem.W.kitOne K (.ref C) (.ref X) = some (decide (C = X) || decide (X = D)) := by
  unfold PySem.W.kitOne
  by_cases e : C = X
  · subst e
    simp
  · have ne : (Value.ref C == Value.ref X) = false := by simp [e]
    rw [ne]
    simp only [Bool.false_eq_true, if_false]
    unfold mroB at hC hX
    cases qX : PySem.W.clsIn K X with
    | none => rw [qX] at hX; cases hX
    | some cx =>
      cases qC : PySem.W.clsIn K C with
      | none => rw [qC] at hC; cases hC
      | some cc =>
        rw [qC] at hC
        have hm := of_decide_eq_true hC
        unfold PySem.W.kitCls
        simp only [qX, ht, Option.isSome_some, Bool.true_and, beq_self_eq_true, if_true]
        show PySem.W.mroIn K C (.ref X) = _
        unfold PySem.W.mroIn
        rw [qC, Option.bind_some, hm]
        simp only [List.isEmpty_cons, Bool.false_eq_true, if_false]
        congr 1
        have nv : (PySem.HandSPX.veTail).contains (Value.ref X) = false := by
          have : ∀ a : Addr, (PySem.HandSPX.veTail).contains (Value.ref a) = false := fun a => rfl
          exact this X
        split
        · rename_i eD
          subst eD
          rw [List.contains_cons, nv]
          have : (Value.ref X == Value.ref C) = false := by simp [Ne.symm e]
          rw [this]
          simp [e, Ne.symm e]
        · rename_i eD
          rw [List.contains_cons, List.contains_cons, nv]
          have : (Value.ref X == Value.ref C) = false := by simp [Ne.symm e]
          rw [this]
          by_cases z : X = D
          · subst z; simp
          · simp [e, z]
/-- the facts as the evaluator wants them; fns: the defs -/
theorem fix_of {P : Program} {w : World} {K : PySem.W.Frag} {hp : Heap} {mg : Str → Option Value} {h : Hd} {pg : Pg} {tab : Str → Option Fd} (X : K.In hp) (G : hp.Ns mainGlobals mg) (c : obsV h K = valV' h) (hf : h.file = P.main.file)
    (hpos : (((posOf (defBody h.ini)).getD 2 default).endLine == ((posOf (defBody h.ini)).getD 4 default).line) = true ∨ h.excs = []) (ht : (P.main.scope.names.lookup ("super" : Str)).isSome = false) (e1 : pg.blts = h.free) (e2 : pg.excs = h.excs) (e3 : pg.cons = h.cons)
    (fns : (∀ (i : Nat) d, h.fn[i]? = some d → ∃ fd, mg d.name = some (.ref (He.ga K d.name)) ∧ FunD K d.name d.qual d.params d.body d.scope (d.dvs K) (d.kws K) (He.fAd K d.at_) fd) →
      ∀ x i, pg.fns.lookup x = some i → ∃ (N : List Str) (f : Addr) (fd : FuncData) (qual : Str) (params : Arguments) (body : List Stmt) (scope : Scope) (dvs : List V) (kws : List (Str × V)) (g : SS),
        mg x = some (.ref f) ∧ FunD K x qual params body scope dvs kws f fd ∧ FnScope N i.ps scope ∧ OkSs pg N scope body g ∧ tab x = some ⟨i.ps.length, N.length, g⟩ ∧
        ∀ n, n + i.dfl.length ≥ i.ps.length → n ≤ i.ps.length → ∃ dvs us, Vals dvs us ∧ Binds K fd i.ps us ∧ ∀ H m, RepL K H m (i.dfl.drop (n + i.dfl.length - i.ps.length)) dvs) : PgFix P w K mg pg tab := by
  have c1 : factB h K = true := congrArg (fun z : AlV => z.1) c
  have c2 : h.fn.map (fun d => He.fnW K d.at_) = h.fn.map He.DefD.val := congrArg (fun z : AlV => z.2.1) c
  unfold factB at c1
  simp only [Bool.and_eq_true] at c1
  obtain ⟨⟨⟨⟨f1, f2⟩, f3⟩, f4⟩, f5⟩ := c1
  have hE : ∀ x, x ∈ h.excs → EVX.ErrC P K mg x ∧ PySem.W.kitOne K (.ref (He.ga K x)) (.type "ValueError") = some true ∧ mroB K (He.ga K "LotError") (He.ga K x) = true := fun x hx => by
    have c3 : (match h.excs with | [] => none | _ => iniW K (iniA K)) = (match h.excs with | [] => none | _ => iniVal h.ini) := congrArg (fun z : AlV => z.2.2) c
    unfold excB at f3
    cases q : h.excs with
    | nil => rw [q] at hx; cases hx
    | cons y ys =>
      rw [q] at c3 f3
      simp only [Bool.and_eq_true] at f3
      obtain ⟨⟨⟨⟨g1, g2⟩, g3⟩, g4⟩, g5⟩ := f3
      obtain ⟨b1, b2⟩ := base_ok (P := P) (st := h.ini) (by rw [← hf]; exact g1) c3 (by
        rcases hpos with z | z
        · exact z
        · rw [q] at z; cases z) ht
      rw [q] at hx
      have g6 := List.all_eq_true.mp g4 x hx
      simp only [Bool.and_eq_true] at g6
      obtain ⟨e1, e2⟩ := err_ok (P := P) (He.glo_ok X G g6.1.1) g6.1.2 g2 b1 b2
      exact ⟨e1, e2, g6.2⟩
  refine ⟨fns (fun i d hi => ?_), fun x d hx => ?_, fun x hx => ?_, fun x hx => ?_, fun a b ha hb => ?_, fun a ha => ?_, f5⟩
  · have g := List.all_eq_true.mp f1 d (List.mem_of_getElem? hi)
    simp only [Bool.and_eq_true] at g
    have e : (h.fn.map fun d => He.fnW K d.at_)[i]? = (h.fn.map He.DefD.val)[i]? := by rw [c2]
    rw [List.getElem?_map, List.getElem?_map, hi] at e
    obtain ⟨fd, F⟩ := He.DefD.funD (Option.some.inj e) g.2
    exact ⟨fd, He.glo_ok X G g.1, F⟩
  · rw [e3] at hx
    have hm : (x, d) ∈ h.cons := by
      clear f4 fns hE
      revert hx
      induction h.cons with
      | nil => intro z; cases z
      | cons p l ih =>
        obtain ⟨y, e⟩ := p
        intro z
        rw [List.lookup_cons] at z
        split at z
        · rename_i q
          cases z
          rw [eq_of_beq q]
          exact List.mem_cons_self ..
        · exact List.mem_cons_of_mem _ (ih z)
    exact conB_ok X G (List.all_eq_true.mp f4 _ hm)
  · rw [e1] at hx
    exact He.free_ok X G (List.all_eq_true.mp f2 x hx)
  · rw [e2] at hx
    exact (hE x hx).1
  · rw [e2] at ha hb
    obtain ⟨_, _, m1⟩ := hE a ha
    obtain ⟨t2, _, m2⟩ := hE b hb
    rw [kit_sub m1 m2 t2.tyC]
    have f3' := f3
    unfold excB at f3'
    cases q : h.excs with
    | nil => rw [q] at ha; cases ha
    | cons y ys =>
      rw [q] at f3'
      simp only [Bool.and_eq_true] at f3'
      obtain ⟨⟨⟨⟨_, _⟩, g3⟩, _⟩, g5⟩ := f3'
      rw [q] at ha hb
      have hL : ("LotError" : Str) ∈ y :: ys := List.contains_iff_mem.mp g5
      have inj := nodupA_ok (f := He.ga K) g3
      congr 1
      unfold subE
      congr 1
      · by_cases z : a = b
        · subst z; simp
        · have : He.ga K a ≠ He.ga K b := fun e => z (inj a b ha hb e)
          simp [z, this]
      · by_cases z : b = "LotError"
        · subst z; simp
        · have : He.ga K b ≠ He.ga K "LotError" := fun e => z (inj b _ hb hL e)
          simp [z, this]
  · rw [e2] at ha
    exact (hE a ha).2.1
end EV

namespace EV
open PySem PySem.Spec PyProof.Rows L2

/-! ### the defs of a text -/
structure FnE where
  d : He.DefD
  N : List Str
  ps : List Str
  cn : List Str := []
  dfl : List D := []
def nodupS : List Str → Bool
  | [] => true
  | a :: as => !(as.contains a) && nodupS as
theorem nodupS_ok : ∀ {l : List Str}, nodupS l = true → l.Nodup
  | [], _ => .nil
  | a :: as, h => by
    simp only [nodupS, Bool.and_eq_true, Bool.not_eq_true'] at h
    refine List.nodup_cons.mpr ⟨fun z => ?_, nodupS_ok h.2⟩
    rw [List.contains_iff_mem.mpr z] at h
    cases h.1
def takeB : List Str → List Str → Bool
  | _, [] => true
  | x :: xs, p :: ps => x == p && takeB xs ps
  | [], _ :: _ => false
theorem takeB_ok : ∀ {N ps : List Str}, takeB N ps = true → N.take ps.length = ps
  | N, [], _ => by simp
  | [], _ :: _, h => by cases h
  | x :: xs, p :: ps, h => by
    simp only [takeB, Bool.and_eq_true] at h
    simp [takeB_ok h.2, eq_of_beq h.1]
def scopeB (N ps : List Str) (sc : Scope) : Bool := isFnS sc && !sc.isCoroutine && !sc.isGenerator && nodupS N && takeB N ps && (ps.all fun x => locB sc x) && (sc.names.all fun y => match y.2 with
  | .free => false
  | _ => true)
theorem scopeB_ok {N ps : List Str} {sc : Scope} (h : scopeB N ps sc = true) : FnScope N ps sc := by
  unfold scopeB at h
  simp only [Bool.and_eq_true, Bool.not_eq_true'] at h
  obtain ⟨⟨⟨⟨⟨⟨h1, h2⟩, h3⟩, h4⟩, h5⟩, h6⟩, h7⟩ := h
  refine ⟨isFnS_ok h1, h2, h3, nodupS_ok h4, takeB_ok h5, fun x hx => locB_ok (List.all_eq_true.mp h6 x hx), fun y hy e => ?_⟩
  have := List.all_eq_true.mp h7 y hy
  rw [e] at this
  cases this
def formOf (pg : Pg) (e : FnE) : SS := (compD pg e.N e.cn e.d.scope e.d.body).getD sPass
def tabOf (pg : Pg) (es : List FnE) (x : Str) : Option Fd := match es.find? (fun e => e.d.name == x) with
  | some e => some ⟨e.ps.length, e.N.length, formOf pg e⟩
  | none => none
def fnsOf (es : List FnE) : List (Str × FnI) := es.map fun e => (e.d.name, ⟨e.ps, e.dfl⟩)
def okE (pg : Pg) (e : FnE) : Bool := scopeB e.N e.ps e.d.scope && (compD pg e.N e.cn e.d.scope e.d.body).isSome && e.d.at_.1 == e.d.name && e.d.at_.2.isNone
/-- how a def takes its arguments -/
def BindE (e : FnE) : Prop := ∀ (K : PySem.W.Frag) (f : Addr) (fd : FuncData), FunD K e.d.name e.d.qual e.d.params e.d.body e.d.scope (e.d.dvs K) (e.d.kws K) f fd →
  ∀ n, n + e.dfl.length ≥ e.ps.length → n ≤ e.ps.length → ∃ dvs us, Vals dvs us ∧ Binds K fd e.ps us ∧ ∀ H m, RepL K H m (e.dfl.drop (n + e.dfl.length - e.ps.length)) dvs
theorem bind0 {e : FnE} (hd : e.dfl = []) (h : ∀ (K : PySem.W.Frag) (f : Addr) (fd : FuncData), FunD K e.d.name e.d.qual e.d.params e.d.body e.d.scope (e.d.dvs K) (e.d.kws K) f fd → Binds K fd e.ps []) : BindE e := fun K f fd F n _ _ => by
  refine ⟨[], [], .nil, h K f fd F, fun H m => ?_⟩
  rw [hd]
  simp only [List.drop_nil]
  exact .nil
structure DefsOk (pg : Pg) (es : List FnE) : Prop where
  ok : ∀ e, e ∈ es → okE pg e = true
  bd : ∀ e, e ∈ es → BindE e
theorem DefsOk.nil {pg : Pg} : DefsOk pg [] := ⟨fun _ h => (by cases h), fun _ h => (by cases h)⟩
theorem DefsOk.cons {pg : Pg} {e : FnE} {es : List FnE} (h : okE pg e = true) (b : BindE e) (r : DefsOk pg es) : DefsOk pg (e :: es) :=
  ⟨fun x hx => by
    rcases List.mem_cons.mp hx with rfl | hx
    · exact h
    · exact r.ok x hx, fun x hx => by
    rcases List.mem_cons.mp hx with rfl | hx
    · exact b
    · exact r.bd x hx⟩
theorem lookup_fns : ∀ {es : List FnE} {x : Str} {i : FnI}, (fnsOf es).lookup x = some i → ∃ (j : Nat) (e : FnE), es[j]? = some e ∧ e.d.name = x ∧ i = ⟨e.ps, e.dfl⟩ ∧ es.find? (fun e => e.d.name == x) = some e
  | [], x, i, h => by cases h
  | e :: es, x, i, h => by
    have h' : ((e.d.name, (⟨e.ps, e.dfl⟩ : FnI)) :: fnsOf es).lookup x = some i := h
    rw [List.lookup_cons] at h'
    split at h'
    · rename_i q
      cases h'
      have := eq_of_beq q
      exact ⟨0, e, rfl, this.symm, rfl, by rw [List.find?_cons]; simp [this]⟩
    · rename_i q
      obtain ⟨j, e2, a, b, c, d⟩ := lookup_fns h'
      refine ⟨j + 1, e2, a, b, c, ?_⟩
      rw [List.find?_cons]
      have : (e.d.name == x) = false := by
        cases z : (e.d.name == x) with
        | false => rfl
        | true =>
          have := eq_of_beq z
          rw [this] at q
          simp at q
      rw [this]
      exact d
theorem fns_of {K : PySem.W.Frag} {mg : Str → Option Value} {h : Hd} {pg : Pg} {es : List FnE} (h1 : h.fn = es.map (·.d)) (h2 : pg.fns = fnsOf es) (Dk : DefsOk pg es)
    (A : ∀ (i : Nat) d, h.fn[i]? = some d → ∃ fd, mg d.name = some (.ref (He.ga K d.name)) ∧ FunD K d.name d.qual d.params d.body d.scope (d.dvs K) (d.kws K) (He.fAd K d.at_) fd) :
    ∀ x i, pg.fns.lookup x = some i → ∃ (N : List Str) (f : Addr) (fd : FuncData) (qual : Str) (params : Arguments) (body : List Stmt) (scope : Scope) (dvs : List V) (kws : List (Str × V)) (g : SS),
      mg x = some (.ref f) ∧ FunD K x qual params body scope dvs kws f fd ∧ FnScope N i.ps scope ∧ OkSs pg N scope body g ∧ tabOf pg es x = some ⟨i.ps.length, N.length, g⟩ ∧
      ∀ n, n + i.dfl.length ≥ i.ps.length → n ≤ i.ps.length → ∃ dvs us, Vals dvs us ∧ Binds K fd i.ps us ∧ ∀ H m, RepL K H m (i.dfl.drop (n + i.dfl.length - i.ps.length)) dvs := fun x i hx => by
  rw [h2] at hx
  obtain ⟨j, e, ej, en, rfl, ef⟩ := lookup_fns hx
  subst en
  have he := List.mem_of_getElem? ej
  have ok := Dk.ok e he
  unfold okE at ok
  simp only [Bool.and_eq_true] at ok
  obtain ⟨⟨⟨o1, o2⟩, o3⟩, o4⟩ := ok
  obtain ⟨fd, hm, F⟩ := A j e.d (by rw [h1, List.getElem?_map, ej]; rfl)
  have ea : He.fAd K e.d.at_ = He.ga K e.d.name := by
    unfold He.fAd
    cases q : e.d.at_.2 with
    | some z => rw [q] at o4; cases o4
    | none =>
      show He.ga K e.d.at_.1 = _
      rw [eq_of_beq o3]
  rw [ea] at F
  obtain ⟨g, hg⟩ := Option.isSome_iff_exists.mp o2
  refine ⟨e.N, _, fd, _, _, _, _, _, _, g, hm, F, scopeB_ok o1, compD_ok hg, ?_, Dk.bd e he K _ fd F⟩
  unfold tabOf
  rw [ef]
  show some (⟨e.ps.length, e.N.length, formOf pg e⟩ : Fd) = _
  unfold formOf
  rw [hg]
  rfl
end EV

namespace EV
open PySem PySem.Spec PyProof.Rows L2

/-! ### the drawing of the laws -/
abbrev ixc (i : Nat) (k : Int) : SE := cOp2 dIx (cVar i) (cCon (.int k))
abbrev inc (f : SE) : SE := cOpn bInt (aOf [f])
abbrev nuc (k : Int) : SE := cCon (.int k)
def primes : List SE := [nuc 2147483647, nuc 2147483629, nuc 2147483587, nuc 2147483579, nuc 2147483563]
def takeForm (A B C E G : Int) : SS :=
  sSeq (sIf [0] (tBl (cOp2 dGt (ixc 0 0) (nuc 0)))
    (sSeq (sSet 2 [0, 1] (cOp2 dMod (inc (ixc 0 0)) (cVar 1)))
      (sSeq (sSetIx 0 [0, 1] (cOp2 dDiv (ixc 0 0) (cVar 1)) [] (nuc 0)) (sRet [2] (cVar 2)))) sPass)
  (sSeq (sSetIx 0 [0] (cOp2 dAdd (ixc 0 2) (nuc 1)) [] (nuc 2))
  (sSeq (sSet 3 [0] (cOp2 dIx (cOpn gLstN (aOf primes)) (cOp2 dMod (inc (ixc 0 2)) (nuc 5))))
  (sSeq (sSet 4 [0, 3] (cOp2 dMod (inc (cOp2 dPow (inc (cOp2 dAdd (cOp2 dAdd (ixc 0 1) (cOp2 dMul (cOp2 dMul (nuc A) (ixc 0 2)) (ixc 0 2))) (nuc B))) (nuc 3))) (cVar 3)))
  (sSeq (sSet 4 [4, 0] (cOp2 dMod (inc (cOp2 dMul (cVar 4) (cOp2 dAdd (cOp2 dMod (inc (cVar 4)) (nuc C)) (cOp2 dMul (nuc E) (ixc 0 2))))) (nuc 2305843009213693907)))
  (sRet [4, 1] (cOp2 dMod (inc (cOp2 dDiv (cVar 4) (nuc G))) (cVar 1)))))))
def potForm (P Q A B C : Int) : SS :=
  sSeq (sSet 2 [1, 0] (cIf (tBl (cOp2 dLt (cVar 1) (cOpn bLen (aOf [cVar 0])))) (cOp2 dIx (cVar 0) (cVar 1)) (cOp2 dAdd (cOp2 dMul (nuc P) (cVar 1)) (nuc Q))))
  (sSeq (sSet 3 [2] (cOp2 dMul (cOp2 dMod (inc (cOpn bAbs (aOf [cVar 2]))) (cOp2 dPow (cOp2 dPow (nuc 10) (nuc 60)) (nuc 5))) (inc (cOp2 dGe (cOpn bAbs (aOf [cVar 2])) (cOp2 dPow (nuc 10) (nuc 18))))))
  (sSeq (sSet 4 [2] (cOp2 dMod (inc (cVar 2)) (nuc 2305843009213693951)))
  (sRet [3, 4, 1] (cOpn gLstN (aOf [cVar 3, cOp2 dMod (inc (cOp2 dAdd (cOp2 dAdd (cOp2 dMul (cVar 4) (nuc A)) (cOp2 dMul (cOp2 dMul (nuc B) (cVar 1)) (cVar 1))) (nuc C))) (nuc 2305843009213693921), nuc 0])))))
def cellsForm : SS := sRet [1, 0] (cOp1 gLR (cOpn bMax2 (aOf [nuc 1, cOpn bMin2 (aOf [cVar 1, cOpn bLen (aOf [cVar 0])])])))
end EV

namespace EV
open PySem PySem.Spec PyProof.Rows L2

theorem R.bind_ok {α β : Type} (a : α) (S : Cells) (f : α → Cells → R β) : (R.ok a S).bind f = f a S := rfl
theorem cVar_view {i : Nat} {ca : Ca} {ms : List Nat} {ρ : SEn} {S : Cells} : cVar i ca (view ms ρ) S = match ρ[i]? with
    | some (some (d, o)) => if !o || ms.contains i then .ok (d, false) S else .no
    | _ => .no := by
  unfold cVar
  rw [view_get]
  cases h : ρ[i]? with
  | none => rfl
  | some x =>
    cases x with
    | none => rfl
    | some b =>
      obtain ⟨d, o⟩ := b
      cases o with
      | false => simp [viewB]
      | true =>
        simp only [Option.map_some, viewB]
        split <;> simp_all
theorem after_none {ms : List Nat} {ρ : SEn} {b : B} (h : ms.any (ownAt ρ) = false) : after ms ρ b = ρ := by
  unfold after
  rw [h]
  rfl
theorem small_mul {i j : Int} (h0 : 0 ≤ j) (h : j < 2 ^ 60) : mulOk i j = true := by
  unfold mulOk small64i
  have h1 : decide (-(2 ^ 64) < j) = true := by apply decide_eq_true; omega
  have h2 : decide (j < 2 ^ 64) = true := by apply decide_eq_true; omega
  rw [h1, h2]
  simp
theorem small_mulL {i j : Int} (h0 : 0 ≤ i) (h : i < 2 ^ 60) : mulOk i j = true := by
  unfold mulOk small64i
  have h1 : decide (-(2 ^ 64) < i) = true := by apply decide_eq_true; omega
  have h2 : decide (i < 2 ^ 64) = true := by apply decide_eq_true; omega
  rw [h1, h2]
  simp
theorem pow_small {i j : Int} {b : Nat} (h0 : i.natAbs < 2 ^ b) (hj : 0 ≤ j) (h : b * j.toNat ≤ 134217728) : powOk i j = true := by
  unfold powOk
  have : nbits i.natAbs ≤ b := by
    unfold nbits
    split
    · omega
    · rename_i hne
      have := (Nat.log2_lt hne).mpr h0
      omega
  have h2 : nbits i.natAbs * j.toNat ≤ 134217728 := Nat.le_trans (Nat.mul_le_mul_right _ this) h
  simp [hj, h2]
/-- a pot as it stands -/
structure Pot (S : Cells) (c : Nat) (a b n : Int) : Prop where
  at_ : S[c]? = some [.int a, .int b, .int n]
  a0 : 0 ≤ a
  b0 : 0 ≤ b
  b1 : b < 2 ^ 62
  n0 : 0 ≤ n
theorem take_pos {A B C E G a b n u : Int} {ca : Ca} {S : Cells} {c : Nat} (p : Pot S c a b n) (ha : 0 < a) (hu : 0 < u) (hu2 : u < 1073741824) :
    runF ⟨2, 5, takeForm A B C E G⟩ ca [.cel c, .int u] S = .ok (.int (a % u), false) (S.set c [.int (a / u), .int b, .int n]) := by
  have hS := p.at_
  have d1 : decide (0 < a) = true := decide_eq_true ha
  have d2 : decide (0 < u) = true := decide_eq_true hu
  have d3 : decide (u < 1073741824) = true := decide_eq_true hu2
  simp [runF, initE, takeForm, sSeq, sIf, exT, tBl, cOp2, cVar_view, R.bind_ok, cCon, lift, dIx, ixD, hS, atI, ixN, dGt, dCmp, bB, bI, ha, hu, hu2, sSet, ex1, cOpn, aOf, aCons, aNil, bInt, dMod, dInt, after, ownAt, sSetIx, dDiv, imm, sRet, endF]
theorem at0 (x y z : D) : atI [x, y, z] 0 = some x := rfl
theorem at1 (x y z : D) : atI [x, y, z] 1 = some y := rfl
theorem at2 (x y z : D) : atI [x, y, z] 2 = some z := rfl
theorem ix30 : ixN 3 0 = some 0 := rfl
theorem ix32 : ixN 3 2 = some 2 := rfl
/-- the primes -/
theorem prime_at {k : Int} (h0 : 0 ≤ k) (h : k < 5) : ∃ p : Int, 0 < p ∧ p < 2 ^ 31 ∧ atI [D.int 2147483647, D.int 2147483629, D.int 2147483587, D.int 2147483579, D.int 2147483563] k = some (.int p) := by
  have : k = 0 ∨ k = 1 ∨ k = 2 ∨ k = 3 ∨ k = 4 := by omega
  rcases this with rfl | rfl | rfl | rfl | rfl
  · exact ⟨2147483647, by decide, by decide, rfl⟩
  · exact ⟨2147483629, by decide, by decide, rfl⟩
  · exact ⟨2147483587, by decide, by decide, rfl⟩
  · exact ⟨2147483579, by decide, by decide, rfl⟩
  · exact ⟨2147483563, by decide, by decide, rfl⟩
theorem natAbs_pow_lt {i : Int} {b : Nat} (h1 : -(2 ^ b : Int) < i) (h2 : i < (2 ^ b : Int)) : i.natAbs < 2 ^ b := by
  have : (i.natAbs : Int) < ((2 ^ b : Nat) : Int) := by
    rw [Int.natCast_pow]
    simp only [Int.cast_ofNat_Int]
    omega
  exact Int.ofNat_lt.mp this
theorem take_zero {A B C E G b n u : Int} {ca : Ca} {S : Cells} {c : Nat} (p : Pot S c 0 b n) (hn : n < 2 ^ 40) (hu : 0 < u) (hu2 : u < 1073741824) (hA : 0 ≤ A ∧ A < 2 ^ 20) (hB : 0 ≤ B ∧ B < 2 ^ 20) (hC : 0 < C) (hE : 0 ≤ E ∧ E < 2 ^ 20) (hG : 0 < G ∧ G < 2 ^ 20) :
    ∃ r, runF ⟨2, 5, takeForm A B C E G⟩ ca [.cel c, .int u] S = .ok (.int r, false) (S.set c [.int 0, .int b, .int (n + 1)]) ∧ 0 ≤ r ∧ r < u := by
  have hS := p.at_
  have hc : c < S.length := (List.getElem?_eq_some_iff.mp hS).1
  have n0 := p.n0
  have m1 : mulOk A (n + 1) = true := small_mul (by omega) (by omega)
  have m2 : mulOk (A * (n + 1)) (n + 1) = true := small_mul (by omega) (by omega)
  have hAn : 0 ≤ A * (n + 1) * (n + 1) := Int.mul_nonneg (Int.mul_nonneg hA.1 (by omega)) (by omega)
  have hAn2 : A * (n + 1) * (n + 1) ≤ 2 ^ 20 * 2 ^ 41 * 2 ^ 41 := by
    have q1 : A * (n + 1) ≤ 2 ^ 20 * 2 ^ 41 := Int.mul_le_mul (by omega) (by omega) (by omega) (by decide)
    exact Int.mul_le_mul q1 (by omega) (by omega) (by decide)
  have hp : powOk (b + A * (n + 1) * (n + 1) + B) 3 = true := by
    have b0 := p.b0
    have b1 := p.b1
    refine pow_small (b := 110) (natAbs_pow_lt ?_ ?_) (by decide) (by decide)
    · have e : (2 : Int) ^ 110 = 1298074214633706907132624082305024 := by decide
      rw [e]; omega
    · have e : (2 : Int) ^ 110 = 1298074214633706907132624082305024 := by decide
      have e2 : (2 : Int) ^ 20 * 2 ^ 41 * 2 ^ 41 = 5070602400912917605986812821504 := by decide
      rw [e2] at hAn2
      rw [e]; omega
  obtain ⟨pr, p0, p1, hpr⟩ := prime_at (k := (n + 1) % 5) (Int.emod_nonneg _ (by decide)) (Int.emod_lt_of_pos _ (by decide))
  generalize hx : (b + A * (n + 1) * (n + 1) + B) ^ 3 % pr = x at *
  have x0 : 0 ≤ x := by rw [← hx]; exact Int.emod_nonneg _ (by omega)
  have x1 : x < pr := by rw [← hx]; exact Int.emod_lt_of_pos _ p0
  have m3 : mulOk E (n + 1) = true := small_mul (by omega) (by omega)
  have m4 : mulOk x (x % C + E * (n + 1)) = true := small_mulL x0 (by omega)
  refine ⟨x * (x % C + E * (n + 1)) % 2305843009213693907 / G % u, ?_, Int.emod_nonneg _ (by omega), Int.emod_lt_of_pos _ hu⟩
  have hG2 : G < 1073741824 := by omega
  have hl : (S.set c [D.int 0, .int b, .int (n + 1)])[c]? = some [D.int 0, .int b, .int (n + 1)] := List.getElem?_set_self hc
  have e3 : ((b + A * (n + 1) * (n + 1) + B) ^ (3 : Int).toNat) % pr = x := hx
  simp [runF, initE, takeForm, primes, sSeq, sIf, exT, tBl, cOp2, cVar_view, R.bind_ok, cCon, lift, dIx, ixD, hS, dGt, dCmp, bB, bI, hu, sSet, ex1, cOpn, aOf, aCons, aNil, bInt, dMod, dInt, after, ownAt, sSetIx, dDiv, imm, sRet, endF, sPass, dAdd, dMul, dPow, gLstN,
    hl, hpr, m1, m2, m3, m4, hp, hx, p0, hC, hG, hG2, at0, at1, at2, ix30, ix32]
end EV

namespace EV
open PySem PySem.Spec PyProof.Rows L2

structure TakeC (A B C E G : Int) : Prop where
  hA : 0 ≤ A ∧ A < 2 ^ 20
  hB : 0 ≤ B ∧ B < 2 ^ 20
  hC : 0 < C
  hE : 0 ≤ E ∧ E < 2 ^ 20
  hG : 0 < G ∧ G < 2 ^ 20
theorem Pot.set {S : Cells} {c : Nat} {a b n a' n' : Int} (p : Pot S c a b n) (ha : 0 ≤ a') (hn : 0 ≤ n') : Pot (S.set c [.int a', .int b, .int n']) c a' b n' :=
  ⟨List.getElem?_set_self (List.getElem?_eq_some_iff.mp p.at_).1, ha, p.b0, p.b1, hn⟩
theorem take_spec {A B C E G a b n u : Int} (tc : TakeC A B C E G) {ca : Ca} {S : Cells} {c : Nat} (p : Pot S c a b n) (hn : n < 2 ^ 40) (hu : 0 < u) (hu2 : u < 1073741824) :
    ∃ r a' n', runF ⟨2, 5, takeForm A B C E G⟩ ca [.cel c, .int u] S = .ok (.int r, false) (S.set c [.int a', .int b, .int n']) ∧ 0 ≤ r ∧ r < u ∧ n' ≤ n + 1 ∧ Pot (S.set c [.int a', .int b, .int n']) c a' b n' := by
  by_cases h : 0 < a
  · exact ⟨_, _, n, take_pos p h hu hu2, Int.emod_nonneg _ (by omega), Int.emod_lt_of_pos _ hu, by omega, p.set (Int.ediv_nonneg p.a0 (by omega)) p.n0⟩
  · have e : a = 0 := by have := p.a0; omega
    subst e
    obtain ⟨r, q, r0, r1⟩ := take_zero (ca := ca) p hn hu hu2 tc.hA tc.hB tc.hC tc.hE tc.hG
    exact ⟨r, 0, n + 1, q, r0, r1, Int.le_refl _, p.set (Int.le_refl _) (by have := p.n0; omega)⟩
theorem pow10 : powOk 10 60 = true := by decide +kernel
theorem pow1060 : powOk 1000000000000000000000000000000000000000000000000000000000000 5 = true := by decide +kernel
theorem pow1018 : powOk 10 18 = true := by decide +kernel
theorem pot_spec {P Q A B C pl : Int} {ca : Ca} {S : Cells} {ns : List Int} (hP : 0 ≤ P ∧ P < 2 ^ 20) (hA : 0 ≤ A ∧ A < 2 ^ 20) (hpl : 0 ≤ pl) (hpl2 : pl < 2 ^ 20) :
    ∃ a b, runF ⟨2, 5, potForm P Q A B C⟩ ca [.scr ns, .int pl] S = .ok (.lst [.int a, .int b, .int 0], true) S ∧ 0 ≤ a ∧ 0 ≤ b ∧ b < 2 ^ 62 := by
  have cell : ∃ x : Int, runF ⟨2, 5, potForm P Q A B C⟩ ca [.scr ns, .int pl] S = .ok (.lst [.int ((if x < 0 then -x else x) % ((10 ^ 60) ^ 5) * (if 10 ^ 18 ≤ (if x < 0 then -x else x) then 1 else 0)), .int ((x % 2305843009213693951 * A + B * pl * pl + C) % 2305843009213693921), .int 0], true) S := by
    have m1 : mulOk P pl = true := small_mul hpl (by omega)
    have m2 : mulOk B pl = true := small_mul hpl (by omega)
    have m3 : mulOk (B * pl) pl = true := small_mul hpl (by omega)
    have m4 : ∀ i, mulOk i A = true := fun i => small_mul hA.1 (by omega)
    have m5 : ∀ (i : Int) (k : Prop) [Decidable k], mulOk i (if k then 1 else 0) = true := fun i k _ => by split <;> exact small_mul (by decide) (by decide)
    have z1 : (60 : Int).toNat = 60 := rfl
    have z2 : (5 : Int).toNat = 5 := rfl
    have z3 : (18 : Int).toNat = 18 := rfl
    by_cases h : pl < (ns.length : Int)
    · have h2 : pl.toNat < ns.length := by omega
      have hx : atI ns pl = some ns[pl.toNat] := by
        unfold atI ixN
        rw [if_pos hpl, if_pos h]
        simp [h2]
      refine ⟨ns[pl.toNat], ?_⟩
      simp [runF, initE, potForm, sSeq, sSet, ex1, after, ownAt, cIf, tBl, cOp2, cVar_view, R.bind_ok, cCon, lift, dLt, dCmp, bB, bI, cOpn, aOf, aCons, aNil, bLen, lenD, h, dIx, ixD, hx, dMul, dMod, dInt, bInt, bAbs, dPow, dGe, sRet, endF, gLstN, dAdd, pow10, pow1060, pow1018, m1, m2, m3, m4, m5, z1, z2, z3]
    · refine ⟨P * pl + Q, ?_⟩
      simp [runF, initE, potForm, sSeq, sSet, ex1, after, ownAt, cIf, tBl, cOp2, cVar_view, R.bind_ok, cCon, lift, dLt, dCmp, bB, bI, cOpn, aOf, aCons, aNil, bLen, lenD, h, dIx, ixD, dMul, dMod, dInt, bInt, bAbs, dPow, dGe, sRet, endF, gLstN, dAdd, pow10, pow1060, pow1018, m1, m2, m3, m4, m5, z1, z2, z3]
  obtain ⟨x, hx⟩ := cell
  refine ⟨_, _, hx, ?_, Int.emod_nonneg _ (by decide), ?_⟩
  · refine Int.mul_nonneg (Int.emod_nonneg _ (by decide)) ?_
    have : ∀ (k : Prop) [Decidable k], (0 : Int) ≤ if k then 1 else 0 := fun k _ => by
      by_cases h : k
      · rw [if_pos h]; decide
      · rw [if_neg h]; decide
    exact this _
  · have := Int.emod_lt_of_pos (x % 2305843009213693951 * A + B * pl * pl + C) (show (0 : Int) < 2305843009213693921 by decide)
    omega
theorem gLR_ok {S : Cells} {j : Int} (h1 : 1 ≤ j) (h2 : j < 1048576) : gLR S (.int j) = some (.lst (rangeD 0 j.toNat), true) := by
  have hj : (rngOk j && decide (j.toNat ≤ 16777216)) = true := by
    unfold rngOk
    simp only [Bool.and_eq_true, decide_eq_true_eq]
    omega
  unfold gLR
  simp only [hj, if_true]
def minI (i j : Int) : Int := if j < i then j else i
def maxI (i j : Int) : Int := if j > i then j else i
theorem cells_eq {ca : Ca} {S : Cells} {ns : List Int} {lim : Int} : runF ⟨2, 2, cellsForm⟩ ca [.scr ns, .int lim] S = lift (gLR S (.int (maxI 1 (minI lim ns.length)))) S := by
  have e : runF ⟨2, 2, cellsForm⟩ ca [.scr ns, .int lim] S = (((lift (gLR S (.int (maxI 1 (minI lim ns.length)))) S).bind fun b S => .ok ((b, [some (D.scr ns, false), some (D.int lim, false)]) : B × SEn) S).bind fun r S => .ok (Fl.rt r.1) S).bind endF := rfl
  rw [e]
  cases gLR S (.int (maxI 1 (minI lim ns.length))) <;> rfl
theorem cells_spec {ca : Ca} {S : Cells} {ns : List Int} {lim : Int} (hl : lim < 1048576) (hn : ns.length ≤ 63) :
    ∃ m : Nat, runF ⟨2, 2, cellsForm⟩ ca [.scr ns, .int lim] S = .ok (.lst (rangeD 0 m), true) S ∧ 1 ≤ m ∧ (m : Int) ≤ max 1 lim := by
  have h1 : 1 ≤ maxI 1 (minI lim ns.length) := by unfold maxI; split <;> omega
  have h2 : maxI 1 (minI lim ns.length) ≤ max 1 lim := by unfold maxI minI; split <;> split <;> omega
  rw [cells_eq, gLR_ok h1 (by omega)]
  exact ⟨_, rfl, by omega, by omega⟩
end EV

namespace Lk00
open PySem PySem.Spec PyProof.Rows L2 EV
abbrev prog : Program := PySem.Challenge.pw_lotkeepers_k00_errors_keep_their_value
def top (i : Nat) : Stmt := prog.main.body.getD i (.Pass ⟨0, 0, 0, 0⟩)
abbrev dd (x : Str) (i : Nat) : He.DefD := ⟨(x, none), x, x, defArgs (top i), defBody (top i), defScope (top i), [], []⟩
def e62 : FnE := { d := dd "_law_pot" 62, N := ["_law_script", "_law_place", "_law_cell", "_law_own", "_law_small"], ps := ["_law_script", "_law_place"], cn := ["_law_pot_here"] }
def e63 : FnE := { d := dd "_law_take" 63, N := ["_law_pot_here", "_law_upto", "_law_digit", "_law_prime", "_law_mixed"], ps := ["_law_pot_here", "_law_upto"], cn := ["_law_pot_here"] }
def e64 : FnE := { d := dd "_law_of" 64, N := ["_law_pot_here", "_law_some"], ps := ["_law_pot_here", "_law_some"], cn := ["_law_pot_here"] }
def e65 : FnE := { d := dd "_law_cells" 65, N := ["_law_script", "_law_limit"], ps := ["_law_script", "_law_limit"], cn := ["_law_pot_here"] }
def e66 : FnE := { d := dd "_law_odd" 66, N := ["_law_pot_here", "_law_some"], ps := ["_law_pot_here"], cn := ["_law_pot_here"] }
def e67 : FnE := { d := dd "_law_all_made" 67, N := ["_law_value", "_law_found"], ps := ["_law_value"], cn := ["_law_pot_here"] }
def e68 : FnE := { d := dd "_law_marks_one" 68, N := ["_law_error", "_law_found"], ps := ["_law_error"], cn := ["_law_pot_here"] }
def e69 : FnE := { d := dd "_law_marks_two" 69, N := ["_law_error", "_law_found"], ps := ["_law_error"], cn := ["_law_pot_here"] }
def e70 : FnE := { d := dd "_law_right" 70, N := ["_law_pot_here", "_law_value", "_law_all_here", "_law_at", "_law_error", "_law_place", "_law_whole"], ps := ["_law_pot_here"], cn := ["_law_pot_here"] }
def e71 : FnE := { d := dd "law" 71, N := ["_law_script", "_law_place", "_law_pot_here", "_law_lap"], ps := ["_law_script"], cn := ["_law_pot_here"] }
def es : List FnE := [e62, e63, e64, e65, e66, e67, e68, e69, e70, e71]
def excs : List Str := (["LotError", "BadNames", "BadLot", "BadLots", "BadFamily", "Unmet", "BadChance", "BadShelf", "NoKeeper", "BadRecord", "BadSum", "NeverBack", "BadAnswers", "OtherShelf", "BadChanges", "BadStore", "Held", "Full", "NoLot", "Last", "Unsound", "BadNumber", "Unserved", "BadPrices", "BadOffers"] : List Str) ++ (["BadWishes", "BadChoice", "BadRun", "NoRead", "NoStamp", "BadHistory", "NoTurn", "TooLong", "BadState", "BadBound", "NeverSure", "Unbelieved", "BadHolding", "Unsafe", "BadHelpers", "NoHelp", "NoPlan", "BadWay", "TooMany", "BadSteps", "TooFew", "Emptied", "BadName", "BadPieces", "TooManyKeepers"] : List Str) ++ (["NotOf", "Down", "IsUp", "Misses", "Older", "NothingToUndo", "NothingToRedo", "NoTrial", "BadJournal", "BadLine"] : List Str)
def free : List Str := ["len", "abs", "max", "min", "all", "any", "int", "list", "range", "isinstance", "ValueError", "repr", "enumerate", "super"]
def cons : List (Str × D) := []
def pg : Pg := { fns := fnsOf es, cons := cons, blts := free, excs := excs }
def hd : Hd := { fn := es.map (·.d), free := free, excs := excs, cons := cons, file := prog.main.file, ini := iniS (top 1) }
theorem c62 : okE pg e62 = true := by kernel_rfl
theorem c63 : okE pg e63 = true := by kernel_rfl
theorem c64 : okE pg e64 = true := by kernel_rfl
theorem c65 : okE pg e65 = true := by kernel_rfl
theorem c66 : okE pg e66 = true := by kernel_rfl
theorem c67 : okE pg e67 = true := by kernel_rfl
theorem c68 : okE pg e68 = true := by kernel_rfl
theorem c69 : okE pg e69 = true := by kernel_rfl
theorem c70 : okE pg e70 = true := by kernel_rfl
theorem c71 : okE pg e71 = true := by kernel_rfl
theorem b62 : BindE e62 := bind0 rfl fun K f fd F => F.bindsN fun _ _ _ _ _ _ us hl => match us, hl with | [_, _], _ => rfl
theorem b63 : BindE e63 := bind0 rfl fun K f fd F => F.bindsN fun _ _ _ _ _ _ us hl => match us, hl with | [_, _], _ => rfl
theorem b64 : BindE e64 := bind0 rfl fun K f fd F => F.bindsN fun _ _ _ _ _ _ us hl => match us, hl with | [_, _], _ => rfl
theorem b65 : BindE e65 := bind0 rfl fun K f fd F => F.bindsN fun _ _ _ _ _ _ us hl => match us, hl with | [_, _], _ => rfl
theorem b66 : BindE e66 := bind0 rfl fun K f fd F => F.bindsN fun _ _ _ _ _ _ us hl => match us, hl with | [_], _ => rfl
theorem b67 : BindE e67 := bind0 rfl fun K f fd F => F.bindsN fun _ _ _ _ _ _ us hl => match us, hl with | [_], _ => rfl
theorem b68 : BindE e68 := bind0 rfl fun K f fd F => F.bindsN fun _ _ _ _ _ _ us hl => match us, hl with | [_], _ => rfl
theorem b69 : BindE e69 := bind0 rfl fun K f fd F => F.bindsN fun _ _ _ _ _ _ us hl => match us, hl with | [_], _ => rfl
theorem b70 : BindE e70 := bind0 rfl fun K f fd F => F.bindsN fun _ _ _ _ _ _ us hl => match us, hl with | [_], _ => rfl
theorem b71 : BindE e71 := bind0 rfl fun K f fd F => F.bindsN fun _ _ _ _ _ _ us hl => match us, hl with | [_], _ => rfl
theorem defs : DefsOk pg es := .cons c62 b62 (.cons c63 b63 (.cons c64 b64 (.cons c65 b65 (.cons c66 b66 (.cons c67 b67 (.cons c68 b68 (.cons c69 b69 (.cons c70 b70 (.cons c71 b71 (.nil))))))))))
end Lk00

namespace Lk00
open PySem PySem.Spec PyProof.Rows L2 EV
abbrev tab : Str → Option Fd := tabOf pg es
theorem t_pot : tab "_law_pot" = some ⟨2, 5, potForm 313 179 73397 8026 233⟩ := by kernel_rfl
theorem t_take : tab "_law_take" = some ⟨2, 5, takeForm 97843 109 10487 181 173⟩ := by kernel_rfl
theorem t_cells : tab "_law_cells" = some ⟨2, 2, cellsForm⟩ := by kernel_rfl
theorem t_of : tab "_law_of" = some ⟨2, 2, sRet [1, 0] (cOp2 dIx (cVar 1) (cCall ("_law_take", none) [] (aOf [cVar 0, cOpn bLen (aOf [cVar 1])])))⟩ := by kernel_rfl
def odds1 : List SE := [cCon .non, cCon (.bl true), cCon (.bl false), nuc 0, nuc 1, cOp1 dNeg (nuc 1), nuc 2, nuc 7, cCon (.str ""), cCon (.str "a"), cCon (.str "x"), cCon (.str "01"), cCon (.str "write"), cOpn gTupN (aOf []), cOpn gLstN (aOf []), cOpn (gDic []) aNil,
  cOpn gTupN (aOf [nuc 0]), cOpn gTupN (aOf [cOpn gTupN (aOf [])]), cOpn gLstN (aOf [nuc 0]), cOpn (gDic [.inr "a"]) (aOf [nuc 1])]
abbrev O : SE := cCall ("_law_odd", none) [] (aOf [cVar 0])
def fA : SS := sSet 1 [0] (cCall ("_law_of", none) [] (aOf [cVar 0, cOpn gLstN (aOf [O, cOpn gTupN (aOf [O, nuc 3]), cOpn gLstN (aOf [O]), cOpn (gDic [.inr "a"]) (aOf [O])])]))
def fB : SS := sSet 2 [1] (cCall ("_law_all_made", none) [] (aOf [cVar 1]))
def retF : SS := sRet [] (cCon (.bl false))
def tVl (i : Nat) : ST := tBl (cOp2 dNe (cOp1 gRepr (cOp1 (gVal excs) (cVar i))) (cOp1 gRepr (cVar 1)))
def tIs (i : Nat) : ST := tNotT (tVal (cOp1 (gIsVE excs) (cVar i)))
def t1 : ST := tOrT (tNotT (tVal (cOp1 (gIsE excs "LotError") (cVar 4)))) (tOrT (tIs 4) (tVl 4))
def marks (i : Nat) : SE := cOp2 dAdd (cCall ("_law_marks_one", none) [] (aOf [cVar i])) (cCall ("_law_marks_two", none) [] (aOf [cVar i]))
def t2 : ST := tBl (cOp2 dNe (marks 4) (cComp (iRng1 (cOpn bLen (aOf [cVar 2]))) [5] (.nm 5) tYesT (cOp2 dEq (cVar 3) (cVar 5))))
def fFor : SS := sFor [2] (iEnu (cVar 2)) (.tp [.nm 3, .nm 4]) (sSeq (sIf [4, 1] t1 retF sPass) (sIf [4, 3, 5, 2] t2 retF sPass))
def fC : SS := sSet 6 [1] (cOpn (gExc "LotError") (aCons (cVar 1) aNil))
def fD : SS := sIf [6, 1] (tOrT (tVl 6) (tIs 6)) retF sPass
def fE : SS := sRet [6] (cOp1 gNot (cOpn bAny (aOf [marks 6])))
theorem t_right : tab "_law_right" = some ⟨1, 7, sSeq fA (sSeq fB (sSeq fFor (sSeq fC (sSeq fD fE))))⟩ := by kernel_rfl
end Lk00

namespace Lk00
open PySem PySem.Spec PyProof.Rows L2 EV
theorem call_eq {x : Str} {g : Fd} {k : Nat} {ds : List D} {S : Cells} (h : tab x = some g) : caF tab (k + 1) (x, none) ds S = runF g (caF tab k) ds S := by
  show (match tab x with | some g => runF g (caF tab k) ds S | none => .no) = _
  rw [h]
def errN : List Str := excs.drop 1
def errs (v : D) : List D := errN.map fun c => .exc c v
theorem made (k : Nat) (v : D) (S : Cells) : caF tab (k + 1) ("_law_all_made", none) [v] S = .ok (.lst (errs v), false) S := by kernel_rfl
def ro (c : Nat) (v : D) (i : Nat) : SEn := [some (.cel c, false), some (v, false), some (.lst (errs v), false), some (.int i, false), some (.exc (errN.getD i "") v, false), none, none]
theorem t2s (k c : Nat) (v : D) (S : Cells) : (List.range 59).map (fun i => t2 (caF tab (k + 1)) (view [4, 3, 5, 2] (ro c v i)) S) = List.replicate 59 (.ok false S) := by kernel_rfl
end Lk00

namespace Lk00
open PySem PySem.Spec PyProof.Rows L2 EV
theorem tc : TakeC 97843 109 10487 181 173 := ⟨by decide, by decide, by decide, by decide, by decide⟩
/-- one of a list is drawn -/
theorem of_spec {k c : Nat} {S : Cells} {a b n : Int} {ds : List D} (p : Pot S c a b n) (hn : n < 2 ^ 40) (h0 : 0 < ds.length) (h1 : ds.length < 1000) :
    ∃ (i : Nat) (d : D) (a' n' : Int), ds[i]? = some d ∧ caF tab (k + 2) ("_law_of", none) [.cel c, .lst ds] S = .ok (d, false) (S.set c [.int a', .int b, .int n']) ∧ n' ≤ n + 1 ∧ Pot (S.set c [.int a', .int b, .int n']) c a' b n' := by
  obtain ⟨r, a', n', e, r0, r1, hn', p'⟩ := take_spec tc (ca := caF tab k) (u := (ds.length : Int)) p hn (by omega) (by omega)
  have hlt : r.toNat < ds.length := by omega
  refine ⟨r.toNat, ds[r.toNat], a', n', by simp [hlt], ?_, hn', p'⟩
  have hat : atI ds r = some ds[r.toNat] := by
    unfold atI ixN
    rw [if_pos r0, if_pos (by omega)]
    simp [hlt]
  have e' : caF tab (k + 1) ("_law_take", none) [.cel c, .int (ds.length : Int)] S = .ok (.int r, false) (S.set c [.int a', .int b, .int n']) := by rw [call_eq t_take]; exact e
  rw [call_eq t_of]
  simp [runF, initE, sRet, ex1, after, ownAt, cOp2, cOpn, cCall, aOf, aCons, aNil, cVar_view, R.bind_ok, cCon, lift, bLen, lenD, bI, dIx, ixD, endF, e', hat]
def oddV : List D := [.non, .bl true, .bl false, .int 0, .int 1, .int (-1), .int 2, .int 7, .str "", .str "a", .str "x", .str "01", .str "write", .tup [], .lst [], .dic [] [], .tup [.int 0], .tup [.tup []], .lst [.int 0], .dic [.str "a"] [.int 1],
  .tup [.str "a"], .tup [.str "a", .str "b"], .tup [.tup [.str "a"]], .tup [.tup [.str "a"], .tup [.str "b"]], .tup [.str "a", .int 0], .tup [.tup [.str "a", .int 0]], .tup [.str "back", .tup []], .tup [.non], .str "A"]
def odEnd (c : Nat) (r : R B) : R B := match r with
  | .ok b S => .ok b S
  | .exn x d S => .exn x d S
  | .no => .no
theorem odd_eq (k c : Nat) (S : Cells) : caF tab (k + 1) ("_law_odd", none) [.cel c] S = (((caF tab k ("_law_of", none) [.cel c, .lst oddV] S).bind fun b S => .ok (b, after [0, 1] [some (D.cel c, false), some (D.lst oddV, true)] b) S).bind fun r S => .ok (Fl.rt r.1) S).bind endF := by kernel_rfl
theorem odd_spec {k c : Nat} {S : Cells} {a b n : Int} (p : Pot S c a b n) (hn : n < 2 ^ 40) :
    ∃ (i : Nat) (d : D) (a' n' : Int), oddV[i]? = some d ∧ caF tab (k + 3) ("_law_odd", none) [.cel c] S = .ok (d, false) (S.set c [.int a', .int b, .int n']) ∧ n' ≤ n + 1 ∧ Pot (S.set c [.int a', .int b, .int n']) c a' b n' := by
  obtain ⟨i, d, a', n', h1, h2, h3, h4⟩ := of_spec (k := k) (ds := oddV) p hn (by decide) (by decide)
  refine ⟨i, d, a', n', h1, ?_, h3, h4⟩
  rw [odd_eq, h2]
  rfl
/-- the values that may come -/
def vals (d1 d2 d3 d4 : D) : List D := [d1, .tup [d2, .int 3], .lst [d3], .dic [.str "a"] [d4]]
def goodV (v : D) : Bool := shwOk v
theorem good1 : oddV.all (fun d => shwOk d && shwOk (.tup [d, .int 3]) && shwOk (.lst [d]) && shwOk (.dic [.str "a"] [d])) = true := by kernel_rfl
theorem good_at {i : Nat} {d : D} (h : oddV[i]? = some d) : shwOk d = true ∧ shwOk (.tup [d, .int 3]) = true ∧ shwOk (.lst [d]) = true ∧ shwOk (.dic [.str "a"] [d]) = true := by
  have := List.all_eq_true.mp good1 d (List.mem_of_getElem? h)
  simp only [Bool.and_eq_true] at this
  exact ⟨this.1.1.1, this.1.1.2, this.1.2, this.2⟩
end Lk00

namespace Lk00
open PySem PySem.Spec PyProof.Rows L2 EV
/-- a drawing's end -/
def Drawn (S S' : Cells) (c : Nat) (b n m : Int) : Prop := ∃ a' n', Pot S' c a' b n' ∧ n' ≤ n + m
theorem of_s {k c : Nat} {S : Cells} {a b n : Int} {ds : List D} (p : Pot S c a b n) (hn : n < 2 ^ 40) (h0 : 0 < ds.length) (h1 : ds.length < 1000) :
    ∃ (i : Nat) (d : D) (S' : Cells), ds[i]? = some d ∧ caF tab (k + 2) ("_law_of", none) [.cel c, .lst ds] S = .ok (d, false) S' ∧ Drawn S S' c b n 1 := by
  obtain ⟨i, d, a', n', q1, q2, q3, q4⟩ := of_spec (k := k) p hn h0 h1
  exact ⟨i, d, _, q1, q2, a', n', q4, q3⟩
theorem odd_s {k c : Nat} {S : Cells} {a b n : Int} (p : Pot S c a b n) (hn : n < 2 ^ 40) :
    ∃ (i : Nat) (d : D) (S' : Cells), oddV[i]? = some d ∧ caF tab (k + 3) ("_law_odd", none) [.cel c] S = .ok (d, false) S' ∧ Drawn S S' c b n 1 := by
  obtain ⟨i, d, a', n', q1, q2, q3, q4⟩ := odd_spec (k := k) p hn
  exact ⟨i, d, _, q1, q2, a', n', q4, q3⟩
def ro0 (c : Nat) : SEn := [some (.cel c, false), none, none, none, none, none, none]
theorem fA_s {k c : Nat} {S : Cells} {a b n : Int} (p : Pot S c a b n) (hn : n < 2 ^ 39) :
    ∃ v S', fA (caF tab (k + 3)) (ro0 c) S = .ok (.nx [some (.cel c, false), some (v, false), none, none, none, none, none]) S' ∧ shwOk v = true ∧ Drawn S S' c b n 5 := by
  obtain ⟨i1, d1, S1, o1, e1, a1, n1, p1, l1⟩ := odd_s (k := k) p (by omega)
  obtain ⟨i2, d2, S2, o2, e2, a2, n2, p2, l2⟩ := odd_s (k := k) p1 (by omega)
  obtain ⟨i3, d3, S3, o3, e3, a3, n3, p3, l3⟩ := odd_s (k := k) p2 (by omega)
  obtain ⟨i4, d4, S4, o4, e4, a4, n4, p4, l4⟩ := odd_s (k := k) p3 (by omega)
  obtain ⟨i5, v, S5, o5, e5, a5, n5, p5, l5⟩ := of_s (k := k + 1) (ds := vals d1 d2 d3 d4) p4 (by omega) (by simp [vals]) (by simp [vals])
  refine ⟨v, S5, ?_, ?_, a5, n5, p5, by omega⟩
  · have e5' : caF tab (k + 3) ("_law_of", none) [.cel c, .lst [d1, .tup [d2, .int 3], .lst [d3], .dic [.str "a"] [d4]]] S4 = .ok (v, false) S5 := e5
    simp [fA, ro0, sSet, ex1, after, ownAt, cOp2, cOpn, cCall, aOf, aCons, aNil, cVar_view, R.bind_ok, cCon, lift, gLstN, gTupN, gDic, keyD, e1, e2, e3, e4, e5']
  · have g1 := good_at o1
    have g2 := good_at o2
    have g3 := good_at o3
    have g4 := good_at o4
    have hi : i5 < 4 := by
      have := (List.getElem?_eq_some_iff.mp o5).1
      simpa [vals] using this
    have : i5 = 0 ∨ i5 = 1 ∨ i5 = 2 ∨ i5 = 3 := by omega
    rcases this with rfl | rfl | rfl | rfl <;> (cases o5)
    · exact g1.1
    · exact g2.2.1
    · exact g3.2.2.1
    · exact g4.2.2.2
/-! the errors -/
theorem ne_self (S : Cells) (s : Str) : dNe S (.str s) (.str s) = some (.bl false, false) := by
  have e : eqS (.str s) (.str s) = true := by simp [eqS, toP, PyData.eqv]
  unfold dNe
  rw [e]
  simp [pln, flatD, toP, PyData.depth, bB]
theorem repr_of {S : Cells} {v : D} (h : shwOk v = true) : gRepr S v = some (.str (toR v).shown, false) := by
  unfold gRepr
  rw [h]
  rfl
theorem has_err {i : Nat} (h : i < 59) : excs.contains (errN.getD i "") = true := by
  have : (List.range 59).all (fun i => excs.contains (errN.getD i "")) = true := by kernel_rfl
  exact List.all_eq_true.mp this i (List.mem_range.mpr h)
theorem t1_s {k c i : Nat} {v : D} {S : Cells} (hi : i < 59) (h : shwOk v = true) : t1 (caF tab k) (view [4, 1] (ro c v i)) S = .ok false S := by
  have h1 := has_err hi
  have h1' : errN.getD i "" ∈ excs := List.contains_iff_mem.mp h1
  have z1 : subE (errN.getD i "") "LotError" = true := by unfold subE; simp
  have z2 := ne_self S (toR v).shown
  have z3 := repr_of (S := S) h
  simp only [t1, tOrT, tNotT, tVal, tIs, tVl, tBl, cOp1, cOp2, cVar_view, ro, R.bind_ok, lift, gIsE, gIsVE, gVal, h1, z1, z2, z3, bB, tru, List.getElem?_cons_succ, List.getElem?_cons_zero, Bool.not_false, Bool.true_or, if_true, Bool.not_true]
theorem t2_s {k c i : Nat} {v : D} {S : Cells} (hi : i < 59) : t2 (caF tab (k + 1)) (view [4, 3, 5, 2] (ro c v i)) S = .ok false S := by
  have e := congrArg (fun l => l[i]?) (t2s k c v S)
  simp only [List.getElem?_map, List.getElem?_replicate, hi, if_true, List.getElem?_range hi, Option.map_some, Option.some.injEq] at e
  exact e
theorem body_s {k c i : Nat} {v : D} {S : Cells} (hi : i < 59) (h : shwOk v = true) : sSeq (sIf [4, 1] t1 retF sPass) (sIf [4, 3, 5, 2] t2 retF sPass) (caF tab (k + 1)) (ro c v i) S = .ok (.nx (ro c v i)) S := by
  simp only [sSeq, sIf, exT, t1_s (k := k + 1) (c := c) (S := S) hi h, t2_s (k := k) (c := c) (v := v) (S := S) hi, R.bind_ok, sPass]
/-- the loop over the errors -/
theorem forL_nx {p : Pt} {body : SEn → Cells → R Fl} {S : Cells} (P : SEn → Prop) : ∀ (ds : List D) (ρ : SEn), P ρ → (∀ d, d ∈ ds → ∀ ρ, P ρ → ∃ ρ1, bindS p d ρ = some ρ1 ∧ body ρ1 S = .ok (.nx ρ1) S ∧ P ρ1) → ∃ ρ', forL p body ds ρ S = .ok (.nx ρ') S ∧ P ρ'
  | [], ρ, h, _ => ⟨ρ, rfl, h⟩
  | d :: ds, ρ, h, hb => by
    obtain ⟨ρ1, b1, b2, b3⟩ := hb d (List.mem_cons_self ..) ρ h
    obtain ⟨ρ', q1, q2⟩ := forL_nx P ds ρ1 b3 fun d hd => hb d (List.mem_cons_of_mem _ hd)
    refine ⟨ρ', ?_, q2⟩
    unfold forL
    rw [b1]
    simp only [b2, R.bind_ok]
    exact q1
def rl (c : Nat) (v : D) (x y : Option B) : SEn := [some (.cel c, false), some (v, false), some (.lst (errs v), false), x, y, none, none]
theorem enum_in {v : D} {d : D} (h : d ∈ enumD (errs v)) : ∃ i, i < 59 ∧ d = .tup [.int (i : Nat), .exc (errN.getD i "") v] := by
  obtain ⟨i, hi⟩ := List.mem_iff_getElem?.mp h
  obtain ⟨e, h1, rfl⟩ := enumD_get hi
  have hl : (errs v).length = 59 := rfl
  have hlt : i < 59 := by rw [← hl]; exact (List.getElem?_eq_some_iff.mp h1).1
  refine ⟨i, hlt, ?_⟩
  unfold errs at h1
  rw [List.getElem?_map] at h1
  cases q : errN[i]? with
  | none => rw [q] at h1; cases h1
  | some x =>
    rw [q] at h1
    cases h1
    rw [List.getD_eq_getElem?_getD, q]
    rfl
theorem for_s {k c : Nat} {v : D} {S : Cells} (h : shwOk v = true) : ∃ x y, fFor (caF tab (k + 1)) (rl c v none none) S = .ok (.nx (rl c v x y)) S := by
  obtain ⟨ρ', q1, x, y, q2⟩ := forL_nx (S := S) (p := .tp [.nm 3, .nm 4]) (body := sSeq (sIf [4, 1] t1 retF sPass) (sIf [4, 3, 5, 2] t2 retF sPass) (caF tab (k + 1))) (fun ρ => ∃ x y, ρ = rl c v x y) (enumD (errs v)) (rl c v none none) ⟨none, none, rfl⟩ (fun d hd ρ ⟨x, y, e⟩ => by
    obtain ⟨i, hi, rfl⟩ := enum_in hd
    subst e
    exact ⟨ro c v i, rfl, body_s hi h, _, _, rfl⟩)
  refine ⟨x, y, ?_⟩
  rw [← q2, ← q1]
  rfl
theorem end_s {k c : Nat} {v : D} {S : Cells} {x y : Option B} (h : shwOk v = true) : sSeq fC (sSeq fD fE) (caF tab (k + 1)) (rl c v x y) S = .ok (.rt (.bl true, false)) S := by
  have z2 := ne_self S (toR v).shown
  have z3 := repr_of (S := S) h
  have z4 : excs.contains "LotError" = true := by kernel_rfl
  have e1 : fC (caF tab (k + 1)) (rl c v x y) S = .ok (.nx [some (.cel c, false), some (v, false), some (.lst (errs v), false), x, y, none, some (.exc "LotError" v, false)]) S := rfl
  have e2 : tVl 6 (caF tab (k + 1)) (view [6, 1] [some (.cel c, false), some (v, false), some (.lst (errs v), false), x, y, none, some (.exc "LotError" v, false)]) S = .ok false S := by
    simp only [tVl, tBl, cOp1, cOp2, cVar_view, R.bind_ok, lift, gVal, z2, z3, z4, List.getElem?_cons_succ, List.getElem?_cons_zero, Bool.not_false, Bool.true_or, if_true]
  have e3 : tIs 6 (caF tab (k + 1)) (view [6, 1] [some (.cel c, false), some (v, false), some (.lst (errs v), false), x, y, none, some (.exc "LotError" v, false)]) S = .ok false S := by
    simp only [tIs, tNotT, tVal, cOp1, cVar_view, R.bind_ok, lift, gIsVE, z4, bB, tru, List.getElem?_cons_succ, List.getElem?_cons_zero, Bool.not_false, Bool.true_or, if_true, Bool.not_true]
  have e4 : fE (caF tab (k + 1)) [some (.cel c, false), some (v, false), some (.lst (errs v), false), x, y, none, some (.exc "LotError" v, false)] S = .ok (.rt (.bl true, false)) S := by kernel_rfl
  unfold sSeq
  rw [e1, R.bind_ok]
  show (((fD (caF tab (k + 1)) _ S).bind fun fl S => match fl with | .nx ρ => fE (caF tab (k + 1)) ρ S | fl => .ok fl S)) = _
  have e5 : fD (caF tab (k + 1)) [some (.cel c, false), some (v, false), some (.lst (errs v), false), x, y, none, some (.exc "LotError" v, false)] S = .ok (.nx [some (.cel c, false), some (v, false), some (.lst (errs v), false), x, y, none, some (.exc "LotError" v, false)]) S := by
    simp only [fD, sIf, exT, tOrT, e2, e3, R.bind_ok, sPass]
  rw [e5, R.bind_ok]
  exact e4
theorem right_s {k c : Nat} {S : Cells} {a b n : Int} (p : Pot S c a b n) (hn : n < 2 ^ 39) : ∃ S', caF tab (k + 4) ("_law_right", none) [.cel c] S = .ok (.bl true, false) S' ∧ Drawn S S' c b n 5 := by
  obtain ⟨v, S1, e1, hv, dr⟩ := fA_s (k := k) p hn
  refine ⟨S1, ?_, dr⟩
  obtain ⟨x, y, e2⟩ := for_s (k := k + 2) (c := c) (S := S1) hv
  have e3 : fB (caF tab (k + 3)) [some (.cel c, false), some (v, false), none, none, none, none, none] S1 = .ok (.nx (rl c v none none)) S1 := by
    have := made (k + 2) v S1
    simp [fB, sSet, ex1, after, ownAt, cCall, aOf, aCons, aNil, cVar_view, R.bind_ok, this, rl]
  have e4 := end_s (k := k + 2) (c := c) (S := S1) (x := x) (y := y) hv
  rw [call_eq t_right]
  have e0 : runF ⟨1, 7, sSeq fA (sSeq fB (sSeq fFor (sSeq fC (sSeq fD fE))))⟩ (caF tab (k + 3)) [.cel c] S = (sSeq fA (sSeq fB (sSeq fFor (sSeq fC (sSeq fD fE)))) (caF tab (k + 3)) (ro0 c) S).bind endF := rfl
  rw [e0]
  have s1 : ∀ (f g : SS) (ca : Ca) (ρ ρ1 : SEn) (S S1 : Cells), f ca ρ S = .ok (.nx ρ1) S1 → sSeq f g ca ρ S = g ca ρ1 S1 := fun f g ca ρ ρ1 S S1 h => by
    unfold sSeq
    rw [h]
    rfl
  rw [s1 _ _ _ _ _ _ _ e1, s1 _ _ _ _ _ _ _ e3, s1 _ _ _ _ _ _ _ e2, e4]
  rfl
end Lk00

namespace Lk00
open PySem PySem.Spec PyProof.Rows L2 EV
def tAll : ST := tNotT (tVal (cOpn bAll (aOf [cComp (iRng1 (nuc 3)) [3] (.nm 3) tYesT (cCall ("_law_right", none) [] (aOf [cVar 2]))])))
def lBody : SS := sSeq (sSetC 2 [0, 1] (cCall ("_law_pot", none) [] (aOf [cVar 0, cVar 1]))) (sIf [2] tAll retF sPass)
theorem t_law : tab "law" = some ⟨1, 4, sSeq (sFor [0] (iVal (cCall ("_law_cells", none) [] (aOf [cVar 0, nuc 3]))) (.nm 1) lBody) (sRet [] (cCon (.bl true)))⟩ := by kernel_rfl
def lr (ns : List Int) (x y : Option B) : SEn := [some (.scr ns, false), x, y, none]
def three (ca : Ca) (c : Nat) (S : Cells) : R (List D) := (ca ("_law_right", none) [.cel c] S).noX.bind fun v1 S => (ca ("_law_right", none) [.cel c] S).noX.bind fun v2 S => (ca ("_law_right", none) [.cel c] S).noX.bind fun v3 S => .ok [v1.1, v2.1, v3.1] S
def fin3 (r : R (List D)) : R Bool := ((((r.bind fun ds S => .ok ((.lst ds, true) : B) S).bind fun b S => .ok [b.1] S).bind fun ds S => lift (bAll S ds) S).bind fun b S => match tru b.1 with
  | some k => .ok k S
  | none => .no).bind fun b S => .ok (!b) S
theorem tAll_eq (ca : Ca) (x : Option B) (S : Cells) (c : Nat) (ns : List Int) : tAll ca (view [2] (lr ns x (some (.cel c, false)))) S = fin3 (three ca c S) := by kernel_rfl
theorem all_s {k c : Nat} {S : Cells} {a b : Int} {ns : List Int} {x : Option B} (p : Pot S c a b 0) : ∃ S', tAll (caF tab (k + 4)) (view [2] (lr ns x (some (.cel c, false)))) S = .ok false S' := by
  obtain ⟨S1, e1, a1, n1, p1, l1⟩ := right_s (k := k) p (by decide)
  obtain ⟨S2, e2, a2, n2, p2, l2⟩ := right_s (k := k) p1 (by omega)
  obtain ⟨S3, e3, a3, n3, p3, l3⟩ := right_s (k := k) p2 (by omega)
  refine ⟨S3, ?_⟩
  rw [tAll_eq]
  have t : three (caF tab (k + 4)) c S = .ok [.bl true, .bl true, .bl true] S3 := by
    unfold three
    rw [e1]
    simp only [R.noX, R.bind_ok]
    rw [e2]
    simp only [R.noX, R.bind_ok]
    rw [e3]
    rfl
  rw [t]
  rfl
theorem lBody_s {k : Nat} {S : Cells} {ns : List Int} {i : Nat} {y : Option B} (hi : i < 1000) : ∃ S' z, lBody (caF tab (k + 4)) (lr ns (some (.int (i : Nat), false)) y) S = .ok (.nx (lr ns (some (.int (i : Nat), false)) z)) S' := by
  obtain ⟨a, b, e, a0, b0, b1⟩ := pot_spec (P := 313) (Q := 179) (A := 73397) (B := 8026) (C := 233) (pl := (i : Int)) (ca := caF tab (k + 3)) (S := S) (ns := ns) (by decide) (by decide) (by omega) (by omega)
  have p : Pot (S ++ [[.int a, .int b, .int 0]]) S.length a b 0 := ⟨by rw [List.getElem?_append_right (Nat.le_refl _)]; simp, a0, b0, b1, by decide⟩
  obtain ⟨S', e2⟩ := all_s (k := k) (ns := ns) (x := some (.int (i : Nat), false)) p
  refine ⟨S', some (.cel S.length, false), ?_⟩
  have e3 : sSetC 2 [0, 1] (cCall ("_law_pot", none) [] (aOf [cVar 0, cVar 1])) (caF tab (k + 4)) (lr ns (some (.int (i : Nat), false)) y) S = .ok (.nx (lr ns (some (.int (i : Nat), false)) (some (.cel S.length, false)))) (S ++ [[.int a, .int b, .int 0]]) := by
    have e' : caF tab (k + 4) ("_law_pot", none) [.scr ns, .int (i : Nat)] S = .ok (.lst [.int a, .int b, .int 0], true) S := by rw [call_eq t_pot]; exact e
    simp [lr, sSetC, ex1, after, ownAt, cCall, aOf, aCons, aNil, cVar_view, R.bind_ok, e', immL, imm]
  unfold lBody sSeq
  rw [e3, R.bind_ok]
  show ((tAll (caF tab (k + 4)) (view [2] (lr ns (some (.int (i : Nat), false)) (some (.cel S.length, false)))) _).bind fun b S => match b with | true => retF (caF tab (k + 4)) _ S | false => sPass (caF tab (k + 4)) _ S) = _
  rw [e2]
  rfl
theorem loop_s {k : Nat} {ns : List Int} : ∀ (ds : List D) (S : Cells) (x y : Option B), (∀ d, d ∈ ds → ∃ i : Nat, i < 1000 ∧ d = .int (i : Nat)) → ∃ S' x' y', forL (.nm 1) (lBody (caF tab (k + 4))) ds (lr ns x y) S = .ok (.nx (lr ns x' y')) S'
  | [], S, x, y, _ => ⟨S, x, y, rfl⟩
  | d :: ds, S, x, y, h => by
    obtain ⟨i, hi, rfl⟩ := h d (List.mem_cons_self ..)
    obtain ⟨S1, z, e⟩ := lBody_s (k := k) (S := S) (ns := ns) (y := y) hi
    obtain ⟨S2, x', y', q⟩ := loop_s ds S1 (some (.int (i : Nat), false)) z fun d hd => h d (List.mem_cons_of_mem _ hd)
    refine ⟨S2, x', y', ?_⟩
    unfold forL
    have b1 : bindS (.nm 1) (.int (i : Nat)) (lr ns x y) = some (lr ns (some (.int (i : Nat), false)) y) := rfl
    rw [b1]
    simp only [e, R.bind_ok]
    exact q
theorem law_s (ns : List Int) (hn : ns.length ≤ 63) : ∃ S, caF tab 5 ("law", none) [.scr ns] [] = .ok (.bl true, false) S := by
  obtain ⟨m, e, m1, m2⟩ := cells_spec (ca := caF tab 3) (S := []) (ns := ns) (lim := 3) (by decide) hn
  have e' : caF tab 4 ("_law_cells", none) [.scr ns, .int 3] [] = .ok (.lst (rangeD 0 m), true) [] := by rw [call_eq t_cells]; exact e
  obtain ⟨S', x', y', q⟩ := loop_s (k := 0) (ns := ns) (rangeD 0 m) [] none none (fun d hd => by
    unfold rangeD at hd
    obtain ⟨i, hi, rfl⟩ := List.mem_map.mp hd
    have hi' : i < m := List.mem_range.mp hi
    have hm : (m : Int) ≤ 3 := by omega
    exact ⟨i, by omega, by simp⟩)
  refine ⟨S', ?_⟩
  rw [call_eq t_law]
  have e1 : exI [0] (iVal (cCall ("_law_cells", none) [] (aOf [cVar 0, nuc 3]))) (caF tab 4) (lr ns none none) [] = .ok (rangeD 0 m, lr ns none none) [] := by
    simp [exI, lr, iVal, cCall, aOf, aCons, aNil, cVar_view, cCon, R.bind_ok, e', itemsD, ownAt]
  show ((sSeq (sFor [0] (iVal (cCall ("_law_cells", none) [] (aOf [cVar 0, nuc 3]))) (.nm 1) lBody) (sRet [] (cCon (.bl true))) (caF tab 4) (lr ns none none) []).bind endF) = _
  unfold sSeq sFor
  rw [e1, R.bind_ok, q]
  rfl
end Lk00

namespace Lk00
open PySem PySem.Spec PyProof.Rows L2 EV
abbrev rowR : PySem.W.OpenRow := PySem.W.OpenLaw.row PySem.Challenge.rw_lotkeepers_k00_errors_keep_their_value
def loose : List Str := (["LotError", "BadNames", "BadLot", "BadLots", "BadFamily", "Unmet", "BadChance", "BadShelf", "NoKeeper", "BadRecord", "BadSum", "NeverBack", "BadAnswers", "OtherShelf", "BadChanges", "BadStore", "Held", "Full", "NoLot", "Last", "Unsound", "BadNumber", "Unserved", "BadPrices", "BadOffers"] : List Str) ++ (["BadWishes", "BadChoice", "BadRun", "NoRead", "NoStamp", "BadHistory", "NoTurn", "TooLong", "BadState", "BadBound", "NeverSure", "Unbelieved", "BadHolding", "Unsafe", "BadHelpers", "NoHelp", "NoPlan", "BadWay", "TooMany", "BadSteps", "TooFew", "Emptied", "BadName", "BadPieces", "TooManyKeepers"] : List Str) ++ (["NotOf", "Down", "IsUp", "Misses", "Older", "NothingToUndo", "NothingToRedo", "NoTrial", "BadJournal", "BadLine", "_law_pot", "_law_take", "_law_of", "_law_cells", "_law_odd", "_law_all_made", "_law_marks_one", "_law_marks_two", "_law_right"] : List Str)
abbrev hk : PySem.W.Hook := hookV 4 hd
def ob (s : PySem.W.SharedT) : AlV := obsVG 4 hd (HandSHeadRun.getT s)
theorem ob_eq (s : PySem.W.SharedT) : ob s = hk.obs s.abs := obsVG_eq (HandSHeadRun.getT_eq s)
theorem run (w : World) : HandSHeadRun.RunEq rowR (PySem.W.view rowR.prog [71]) hk ob 20000 loose w := by
  intro os
  kernel_rfl
end Lk00

namespace Lk00
open PySem PySem.Spec PyProof.Rows L2 EV
theorem fix {w : World} {K : PySem.W.Frag} {hp : Heap} {mg : Str → Option Value} (X : K.In hp) (G : hp.Ns mainGlobals mg) (c : obsV hd K = valV' hd) : PgFix prog w K mg pg tab :=
  fix_of X G c rfl (.inl (by kernel_rfl)) (by kernel_rfl) rfl rfl rfl (fns_of rfl rfl defs)
theorem rm5 : Rm 5 callerA := ⟨⟨rfl, by decide, by decide⟩, rfl⟩
theorem nm : (HandSHeadRun.topDef prog 71).name = ("law" : Str) := by kernel_rfl
end Lk00
open PySem PySem.W PySem.Calls PyProof.Rows
theorem PySem.Challenge.cw_lotkeepers_k00_errors_keep_their_value_holds : PySem.Challenge.rw_lotkeepers_k00_errors_keep_their_value.Holds := by
  w_on; o_law
  refine HandSHeadRun.head_any (r := Lk00.rowR) (q := view Lk00.rowR.prog [71]) (H := Lk00.hk) (ob := Lk00.ob) (M := 20000) (loose := Lk00.loose) (d := HandSHeadRun.topDef Lk00.rowR.prog 71) (kwd := []) Lk00.ob_eq
    (by kernel_rfl) (fun s => by kernel_rfl) Lk00.run (by kernel_rfl) (by kernel_rfl) (by kernel_rfl) (by rfl) (by first | assumption | decide +kernel) (by decide +kernel) ⟨rfl, rfl, rfl, rfl, rfl, by decide +kernel⟩ ?hw ?hc
  case hw => w_witness2
  case hc =>
    refine EV.walk_ev (l := PySem.Challenge.rw_lotkeepers_k00_errors_keep_their_value) (n := 63) (k := 5) (x := "_law_script") (pg := Lk00.pg) (tab := Lk00.tab) rfl (by decide) (by kernel_rfl) Lk00.rm5 ?F (by kernel_rfl) ?ev
    case F =>
      intro w mg h Y G
      obtain ⟨K, KX, c⟩ := Y
      exact ⟨K, KX, Lk00.fix KX G c⟩
    case ev =>
      intro ns hn
      have := Lk00.law_s ns hn
      exact this
