import PyProof.Rows.All
import Wide.All
import OpenK.AllK
import Wide.FinOn
import KE.KStateDown
import KE.KExcSuper
import HandS.ForMost
import HandS.ExcInit
import HandS.HeadHook2
import HandS.ExcField
import HandS.IsInst
import KE.KExcIs
import HandS.Lambda
import HandS.Style
import HandS.TupAny
import PyProof.InstNe
import HandS.SetKeys
import HandS.Strs
import HandS.HeadHook4
import HandS.Property
import HandS.Deep
import HandS.WideBits
import HandS.Wide
import HandS.Conv
import HandS.Zip
import HandS.Dict
import HandS.Star
import KE.GoesEnum
import HandS.SetFor
import KE.SortData
import HandS.Head2
import HandS.HeadEnd
import KE.KIntText
import PyProof.Rows.StrCase
import PySem.Challenge.RW_lotkeepers_k01_whole_circles_and_lots
set_option Elab.async false
set_option linter.all false
set_option autoImplicit false
set_option maxRecDepth 100000
set_option maxHeartbeats 0

namespace EVX
open PySem PySem.W PySem.Calls PyProof.Rows

/-- the body of the errors' __init__ -/
def initBody (q : List Pos) : List Stmt := [
  .Expr (.Call (.Attribute (.Call (.Name "super" (q.getD 0 default)) [] [] (q.getD 1 default)) "__init__" (q.getD 2 default)) [.Name "value" (q.getD 3 default)] [] (q.getD 4 default)) (q.getD 5 default),
  .Assign [.Attribute (.Name "self" (q.getD 6 default)) "value" (q.getD 7 default)] (.Name "value" (q.getD 8 default)) (q.getD 9 default)]
def initPars (p1 p2 : Pos) : Arguments := { posonlyargs := [], args := [{ arg := "self", annotation := none, pos := p1 }, { arg := "value", annotation := none, pos := p2 }], vararg := none, kwonlyargs := [], kw_defaults := [], kwarg := none, defaults := [] }
def initScope : Scope := { kind := .function, names := [("self", .local), ("value", .local), ("__class__", .free), ("super", .globalImplicit)], isGenerator := false, isCoroutine := false, more := [] }

/-- what the written part says of the errors' base, at D, its __init__ at f -/
structure Base (prog : Program) (K : Frag) (D f : Addr) : Prop where
  fn : ∃ oc od osl qual p1 p2 q kV doc pm an ct cda cc ccl cdd ccs vs tf cl cld csl, K.lookup f = some ⟨oc, od, .func (ksFn "__init__" qual (initPars p1 p2) (initBody q) initScope .none kV doc pm an (.ref cda) ct cc), osl⟩ ∧ codeIn K (.ref cda) qual = true ∧
    K.lookup cda = some ⟨ccl, cdd, .fields vs, ccs⟩ ∧ vs[2]? = some (.str prog.main.file tf) ∧ K.lookup cc = some ⟨cl, cld, .cell (some (.ref D)), csl⟩ ∧ ((q.getD 2 default).endLine == (q.getD 4 default).line) = true
  cls : ∃ cd, clsIn K D = some cd
  sup : nsIn K mainGlobals "super" = some none
  tp : nsIn K cStatics "thirdparty.any" = some none
  top : (prog.main.scope.names.lookup ("super" : Str)).isSome = false
/-- .. of the error's class at C -/
structure Err (K : Frag) (D f C : Addr) : Prop where
  ve : excInitIn K C PySem.HandSPX.veTail "ValueError.__new__" = true
  mro : ∃ cd, clsIn K C = some cd ∧ HandSPX.refsVE cd.mro = true ∧ cd.hasDict = true
  sub : mroIn K C (.ref D) = some true
  ini : ks_superIn K C D "__init__" = some (some (.builtin "ValueError.__init__"))
  isv : subIn K (.ref C) (.type "ValueError") = some true
  val : findIn K (.ref C) "value" = some none
  sa : findIn K (.ref C) "__setattr__" = some (some (.builtin "object.__setattr__"))

section
variable {prog : Program} {w : World} {A : Around} {K : Frag} {D f C : Addr} {mg mb : Str → Option Value} {s : Shared} {e t0 : Addr} {u : Value} {R : Result → Shared → Prop}
/-- __init__(e, u) on a new error -/
theorem init_run (B : Base prog K D f) (X : Err K D f C) (hk : K.In s.heap) (hg : s.heap.Ns mainGlobals mg) (hb : s.heap.Ns builtinsNs mb) (hbm : ∀ x : Str, x ≠ "__name__" → mb x = bootBuiltins x) (hl : s.heap.NoLimit) (hr : A.depth < recursionLimit)
    (he : s.heap.get? e = some (excObj C t0 none .none)) (hne : ∀ a o, K.lookup a = some o → a ≠ e) (hgl : mainGlobals ≠ e) (hbl : builtinsNs ≠ e)
    (h : ∀ h' tk dx t1, (∀ b o, b ≠ e → s.heap.get? b = some o → h'.get? b = some o) → s.heap.objs.size ≤ dx → h'.get? e = some (excObj C t1 (some dx) .none) → h'.Ns1 dx (fun y => if y = "value" then some u else none) →
      R (.ok (.ret .none)) { s with heap := h', toks := tk }) : codeAny (model prog w) A (.call (.ref f) ⟨[.ref e, u], []⟩) R s := by
  obtain ⟨oc, od, osl, qual, p1, p2, q, kV, doc, pm, an, ct, cda, cc, ccl, cdd, ccs, vs, tf, cl, cld, csl, lf, hcd, lc, hvs, lcc, hpos⟩ := B.fn
  obtain ⟨cdD, hD⟩ := B.cls
  have hh0 : K.In (hideAll s.heap [e]) := fun a o z => hideAll_get [e] (hk a o z) (by simpa using hne a o z)
  refine ks_codeAny_call_defAt (binds := [("self", .ref e), ("value", u)]) hr (hk _ _ lf) rfl hl (codeRec_of hk hcd) rfl (BindsTo.of_eq rfl) (show ∀ x ∈ initScope.names, x.2 ≠ .cell by decide) (fun x hx => ?_) (fun h1 hns hkeep => ?_) rfl rfl rfl
  · simp only [List.mem_cons, List.mem_nil_iff, or_false] at hx
    rcases hx with rfl | rfl <;> rfl
  have F1 : Fr (hideAll s.heap [e]) s.heap.objs.size h1 (fun x => [(("self" : Str), Value.ref e), ("value", u)].reverse.lookup x) := ⟨hns, fun b o z => hkeep b o (of_hideAll _ z), Nat.le_of_eq (hideAll_size _ _)⟩
  have N1 : News (hideAll s.heap [e]) s.heap.objs.size h1 [(e, excObj C t0 none .none)] := fun p hp => by
    have : p = (e, excObj C t0 none .none) := by simpa using hp
    subst this
    exact ⟨hkeep _ _ he, Nat.ne_of_lt (Heap.lt_size he), hideAll_none _ (by simp)⟩
  have hg0 : (hideAll s.heap [e]).Ns mainGlobals mg := by
    obtain ⟨o, es, ep, z, r⟩ := hg
    exact ⟨o, es, ep, hideAll_get [e] z (by simpa using hgl), r⟩
  have hb0 : (hideAll s.heap [e]).Ns builtinsNs mb := by
    obtain ⟨o, es, ep, z, r⟩ := hb
    exact ⟨o, es, ep, hideAll_get [e] z (by simpa using hbl), r⟩
  obtain ⟨oD, hD1, hD2⟩ : ∃ oD, K.lookup D = some oD ∧ oD.data = .cls cdD := by
    unfold clsIn at hD
    split at hD
    · rename_i c d cd' sl ho
      cases hD
      exact ⟨_, ho, rfl⟩
    · cases hD
  obtain ⟨cdC, hC, hmro, hdict⟩ := X.mro
  refine ks_wpAt_execs_cons (ks_wpAt_Expr_any (ks_wpAt_MethodCall (pl := do return (← importBound (.Call (.Name "super" (q.getD 0 default)) [] [] (q.getD 1 default)) (callEnv (ksFn "__init__" qual (initPars p1 p2) (initBody q) initScope .none kV doc pm an (.ref cda) ct cc) s.heap.objs.size f)).getD true) ?_ ?_) rfl rfl)
  rotate_left
  · rw [arm_eval_Call]
    refine congrArg _ (funext fun ov => congrArg _ (funext fun _ => ?_))
    unfold methodCall
    have : methodCallPos true (.Call (.Name "super" (q.getD 0 default)) [] [] (q.getD 1 default)) (callEnv (ksFn "__init__" qual (initPars p1 p2) (initBody q) initScope .none kV doc pm an (.ref cda) ct cc) s.heap.objs.size f) (q.getD 2 default) (q.getD 4 default) = pure (q.getD 4 default) := by
      unfold methodCallPos
      rw [hpos]
      rfl
    show (holding [ov] (getMethod ov _ _) >>= fun x => methodCallPos true _ _ _ _ >>= fun cp => _) = _
    rw [this]
    rfl
  have I1 : InstAt h1 e (excObj C t0 none .none) C none := ⟨hkeep _ _ he, rfl, rfl, trivial⟩
  have X1 : K.In h1 := hh0.keeps F1.keep
  have bs : bootBuiltins "super" = some (.type "super") := by first | boot_by_name | rfl | kernel_rfl
  refine ks_wpAt_super_base (env := ksEnv qual initScope s.heap.objs.size f (.ref cda) cc) rfl rfl (by decide) rfl (X1 _ _ lf) rfl rfl rfl (X1 _ _ lc) rfl hvs (by simp) B.top ?_
  refine ks_loadName_global rfl rfl (loadGlobal_builtin (env := ksEnv qual initScope s.heap.objs.size f (.ref cda) cc) (hg0.keeps F1.keep) (mg_none_of hh0 hg0 B.sup) (hb0.keeps F1.keep) ((hbm _ (by decide +kernel)).trans bs) ⟨rfl, ?_⟩)
  refine wpAny_loadName_free rfl rfl rfl ⟨_, X1 _ _ lcc, rfl⟩ ?_
  refine wpAny_loadName_local rfl rfl F1.ns rfl ?_
  refine ks_wpAny_isType_cls (X1 _ _ hD1) hD2 ⟨rfl, ?_⟩
  refine ks_wpAny_call_super (X1 _ _ hD1) hD2 I1.at_ I1.cls (fun c z => by cases z) (looks_mroIn X1 X.sub) (fun h2 e2 k2 => ?_)
  obtain ⟨F2, N2, l2⟩ := ks_newsPush (s := ⟨h1, s.gens, s.drawn, s.toks + 2, s.os⟩) (o := ks_superObj D e C) F1 N1 rfl e2 k2
  have I2 : InstAt h2 e (excObj C t0 none .none) C none := ⟨k2 _ _ I1.at_, rfl, rfl, trivial⟩
  refine kxs_method (s := ⟨h2, s.gens, s.drawn, s.toks + 2, s.os⟩) kxs_ValueError F2 hh0 N2 (by simp) I2 B.tp X.ini X.isv (by decide) (fun q3 h3 F3 N3 l3 => ?_)
  refine kxs_callWith1 (s := ⟨h3, s.gens, s.drawn, s.toks + 2 + 1, s.os⟩) (i := "ValueError.__init__") (x := e) N3 (by simp) ?_ rfl rfl
  refine spliced_cons (wpAny_Name (wpAny_loadName_local rfl rfl F3.ns rfl (spliced_nil ⟨kxs_at (i := "ValueError.__init__") (x := e) N3 (by simp), ?_⟩)) (by decide))
  have n3 : q3 ≠ e := Nat.ne_of_gt (l3 (e, excObj C t0 none .none) (by simp))
  have n2 : h1.objs.size ≠ e := Nat.ne_of_gt (l2 (e, excObj C t0 none .none) (by simp))
  refine kxs_call (x := e) (t := t0) (dv := none) (c2 := .none) (nw := fun o => [(q3, kxs_mw "ValueError.__init__" e), (h1.objs.size, ks_superObj D e C), (e, o)]) (s := ⟨h3, s.gens, s.drawn, s.toks + 2 + 1, s.os⟩) F3 hh0 N3 PySem.F.excBase_ValueError X.ve (by simp)
    (.tail n3 (.tail n2 (.head (by simp)))) (show 1 ≤ sizeLine by decide) (fun t' h4 F4 N4 l4 => ?_)
  have I4 : InstAt h4 e (excObj C t' none .none) C none := ⟨(N4 (e, excObj C t' none .none) (by simp)).1, rfl, rfl, trivial⟩
  have X4 : K.In h4 := hh0.keeps F4.keep
  refine ks_wpAt_execs_cons (ks_wpAt_Assign_Attr (wpAt_of_wpAny (wpAny_Name (wpAny_loadName_local rfl rfl F4.ns rfl (wpAny_Name (wpAny_loadName_local rfl rfl F4.ns rfl ?_) (by decide))) (by decide))) rfl)
  refine set_plain (s := ⟨h4, s.gens, s.drawn, s.toks + 2 + 1, s.os⟩) X4 I4 X.sa (HandSPX.exc_osa X4 I4.at_ hC hmro hdict X.val (fun h5 tk dx k5 z5 dxe g5 ns5 => ?_))
  refine wpAt_of_wpAny (wpAny_execs_nil ?_)
  obtain ⟨oL, es, ep, hL, _⟩ := F4.ns
  exact h h5 tk dx t' (fun b o nb z => k5 b o nb (F4.keep b o (hideAll_get [e] z (by simpa using nb)))) (Nat.le_trans (Nat.le_of_lt (Heap.lt_size hL)) z5) g5 ns5
end
end EVX

namespace EVX
open PySem PySem.Spec PyProof.Rows L2

/-- the error class named x, over LotError -/
structure ErrC (prog : Program) (K : PySem.W.Frag) (mg : Str → Option Value) (x : Str) : Prop where
  ex : ∃ D f, Base prog K D f ∧ Err K D f (He.ga K x) ∧ PySem.W.findIn K (.ref (He.ga K x)) "__init__" = some (some (.ref f)) ∧ PySem.W.typeIn K (.ref f) = some (.type "function")
  mg : mg x = some (.ref (He.ga K x))
  keep : PySem.W.keepIn K (.ref (He.ga K x)) = true
  exC : PySem.W.subIn K (.ref (He.ga K x)) (.type "BaseException") = some true
  tyC : PySem.W.typeIn K (.ref (He.ga K x)) = some (.type "type")
  xf : XfC K (He.ga K x)
  noat : PySem.W.findIn K (.ref (He.ga K x)) "value" = some none
  ca : PySem.W.findIn K (.ref (He.ga K x)) "__class__" = some (some (.builtin "object.__class__"))
  cg : PySem.W.specialIn K (.builtin "object.__class__") "__get__" = some (some (.builtin "getset_descriptor.__get__"))
  ct : PySem.W.takesIn K (.builtin "object.__class__") = some true
  co : PySem.W.mroIn K (He.ga K x) (.type "object") = some true
  exm : PySem.W.exmOne K (.ref (He.ga K x)) (.ref (He.ga K "LotError")) = some true

/-- at a: an error of the class at C, made or caught, its dict at d -/
def exq (a C : Addr) (d : Option Addr) : HO := .ext fun h => ∃ (oe : Obj) (vs : Array Value), h.get? a = some oe ∧ oe.cls = .ref C ∧ oe.dict = d ∧ oe.data = .fields vs
theorem exq_ok {P : Program} {w : World} {H : Hp} {h : Heap} {a C : Addr} {d : Option Addr} {oe : Obj} {vs : Array Value} (h1 : h.get? a = some oe) (h2 : oe.cls = .ref C) (h3 : oe.dict = d) (h4 : oe.data = .fields vs) : ObjOk P w H h a (exq a C d) :=
  ⟨⟨oe, vs, h1, h2, h3, h4⟩, ⟨oe, h1⟩, fun g1 g2 z k => by
    obtain ⟨o, us, q1, q2⟩ := z
    exact ⟨o, us, k _ q1, q2⟩⟩
theorem exq_at {P : Program} {w : World} {H : Hp} {h : Heap} {a C : Addr} {d : Option Addr} (hok : HOk P w H h) (he : H a = some (exq a C d)) : ∃ (oe : Obj) (vs : Array Value), h.get? a = some oe ∧ oe.cls = .ref C ∧ oe.dict = d ∧ oe.data = .fields vs := by
  have x : ObjOk P w H h a (.ext fun h => ∃ (oe : Obj) (vs : Array Value), h.get? a = some oe ∧ oe.cls = .ref C ∧ oe.dict = d ∧ oe.data = .fields vs) := hok a _ he
  exact x.1
theorem xd_at {P : Program} {w : World} {H : Hp} {h : Heap} {dx : Addr} {fs : List (Str × V)} (hok : HOk P w H h) (he : H dx = some (.xd fs)) : ∃ mA, h.Ns1 dx mA ∧ ∀ f, RelO (fs.lookup f) (mA f) := hok dx _ he
/-- C(y): a new error -/
def rMk (C : Addr) : List V → Hp → VK → Prop := fun xs H Q => ∃ y, xs = [y] ∧ ∀ a dx, H a = none → H dx = none → dx ≠ a → Q (.ref a) (upd (upd H dx (.xd [(("value" : Str), y)])) a (exq a C (some dx)))

section
variable {X : Cx}
theorem call_err {x : Str} (hr : Room 0 X.A) (T : ErrC X.prog X.K X.mg x) : CallR X (.ref (He.ga X.K x)) (rMk (He.ga X.K x)) := by
  intro pins s σ H xs us Q I r h
  obtain ⟨y, rfl, q⟩ := h
  obtain ⟨D, f, B, Er, iC, tI⟩ := T.ex
  generalize hCe : He.ga X.K x = C at *
  cases r with
  | @cons _ u _ _ ry r0 =>
    cases r0
    obtain ⟨hp, g, dr, tk, os⟩ := s
    obtain ⟨nm, N', qn, bs, bm, hdct, sn, sub, ab, col, dd, k0, k1, k2, k3, k5, hC, hT⟩ := PySem.W.excInit_of I.kIn Er.ve
    obtain ⟨mb, hb, hbm⟩ := I.ok.mod.blt
    have keepB : ∀ b o, X.base.get? b = some o → hp.get? b = some o := fun b o z => (I.bs b o z).1
    have kk : ∀ b o, hp.get? b = some o → ((hp.push (PySem.W.kdv_tup [u])).push (PySem.HandSPX.excO C hp.objs.size)).get? b = some o := fun b o e => Heap.get?_push_of_some _ (Heap.get?_push_of_some _ e)
    have hget : ((hp.push (PySem.W.kdv_tup [u])).push (PySem.HandSPX.excO C hp.objs.size)).get? (hp.objs.size + 1) = some (PySem.HandSPX.excO C hp.objs.size) := by heap_get
    have old : ∀ {b : Addr} {o : Obj}, hp.get? b = some o → b ≠ hp.objs.size + 1 := fun {b o} z => Nat.ne_of_lt (Nat.lt_succ_of_lt (Heap.lt_size z))
    have hgl := I.ok.mod.glob
    refine wpAny_call (PySem.HandSPX.call_own F.excBase_ValueError hT hC (PySem.W.looks_findIn I.kIn iC) (fun self => PySem.W.bind_fn I.kIn self tI) (show 1 ≤ sizeLine by decide) ?_)
    refine init_run (t0 := hp.objs.size) (s := ⟨(hp.push (PySem.W.kdv_tup [u])).push (PySem.HandSPX.excO C hp.objs.size), g, dr, tk, os⟩) B Er (I.kIn.keeps kk) ((I.ok.mod.glob.keeps keepB).keeps kk) ((hb.keeps keepB).keeps kk) hbm ((I.ok.mod.nolimit.keeps keepB).keeps kk) ?_ hget (fun a o z => old (I.kIn _ _ z)) ?_ ?_ (fun h' tk' dx t1 k1 z1 g1 n1 => ?_)
    · rw [make_depth]
      have := hr.dp
      show X.A.depth + _ < _
      omega
    · obtain ⟨o, _, _, z, _⟩ := hgl
      exact old (keepB _ _ z)
    · obtain ⟨o, _, _, z, _⟩ := hb
      exact old (keepB _ _ z)
    · have kf : ∀ b o, hp.get? b = some o → h'.get? b = some o := fun b o z => k1 b o (old z) (kk b o z)
      have hsz : hp.objs.size + 2 ≤ dx := by simpa [Heap.push] using z1
      have hda : dx ≠ hp.objs.size + 1 := by omega
      have hna : H (hp.objs.size + 1) = none := I.hok.fresh (Nat.le_succ _)
      have hnd : H dx = none := I.hok.fresh (by show hp.objs.size ≤ dx; omega)
      have nd : ∀ {b : Addr} {o : Obj}, hp.get? b = some o → b ≠ dx := fun {b o} z => Nat.ne_of_lt (Nat.lt_of_lt_of_le (Heap.lt_size z) (Nat.le_trans (Nat.le_add_right _ 2) hsz))
      have hu : ∀ b o, H b = some o → (upd (upd H dx (.xd [(("value" : Str), y)])) (hp.objs.size + 1) (exq (hp.objs.size + 1) C (some dx))) b = some o := fun b o z => by
        rw [upd_ne (ne_of_none z hna), upd_ne (ne_of_none z hnd)]; exact z
      have U : Un X.fs [] H (upd (upd H dx (.xd [(("value" : Str), y)])) (hp.objs.size + 1) (exq (hp.objs.size + 1) C (some dx))) hp h' := {
        keep := fun b o z n _ _ => kf b o z
        slot := fun b o z n _ _ => ⟨o.slots, kf b o z⟩
        free := fun b o z n _ => by rw [upd_ne (old z), upd_ne (nd z)]; exact n
        there := fun b o z _ => ⟨o, kf b o z⟩
        tups := fun b xs z => hu _ _ z
        frzs := fun b o v z => hu _ _ z
        tbls := fun b ps z => ⟨#[], by rw [hu _ _ z]; simp⟩ }
      refine ⟨rfl, ?_⟩
      refine ⟨.ref (hp.objs.size + 1), _, I.un (t' := tk') U (fun b o z => ?_), rfl, q _ _ hna hnd hda⟩
      by_cases hb1 : b = hp.objs.size + 1
      · subst hb1
        rw [upd_same] at z
        cases z
        exact exq_ok g1 rfl rfl rfl
      · rw [upd_ne hb1] at z
        by_cases hd1 : b = dx
        · subst hd1
          rw [upd_same] at z
          cases z
          exact ⟨_, n1, relO_put (fs := []) ry fun g => True.intro⟩
        · rw [upd_ne hd1] at z
          exact (I.hok b o z).stay (fun c v _ zz => kf c v zz) (fun c hc => hu _ _ hc) (fun c xs hc => hu _ _ hc)
/-- isinstance(e, c), e an error that one holds -/
def rIsX (K : PySem.W.Frag) : List V → Hp → VK → Prop := fun xs H Q => ∃ (a C dx : Addr) (fs : List (Str × V)) (c : V) (u : Value) (b : Bool), xs = [.ref a, c] ∧ H a = some (exq a C (some dx)) ∧ H dx = some (.xd fs) ∧
  ClsV c u ∧ PySem.W.kitOne K (.ref C) u = some b ∧ (∃ (P : Program) (mg : Str → Option Value) (x : Str), C = He.ga K x ∧ ErrC P K mg x) ∧ Q (.bl b) H
theorem call_isX : CallR X (.builtin "isinstance") (rIsX X.K) := by
  intro pins s σ H xs us Q I r h
  obtain ⟨a, C, dx, fs, c, u, b, rfl, ea, ed, k, e, ⟨P, mg, x, rfl, T⟩, q⟩ := h
  obtain ⟨u1, u2, rfl, r1, r2⟩ := vals2 r
  cases (show u1 = Value.ref a from r1)
  have e2 := k.eq r2
  subst e2
  obtain ⟨oe, vx, ho, hoc, hod2, hdt⟩ := exq_at I.hok ea
  obtain ⟨mA, hns, rel⟩ := xd_at I.hok ed
  obtain ⟨oD, _, _, hoD, _, _⟩ := hns.count (within_of rel)
  obtain ⟨cd, hcd, _⟩ := PySem.W.any_some T.xf.hdC
  exact PySem.W.kia_one (PySem.W.kitx_exc (od := some oD) (by rw [hcd]; rfl) T.xf.ga T.xf.gg T.xf.exC T.ca T.cg T.ct T.co) I.kIn ⟨ho, hoc, by unfold PySem.W.notCls; rw [hdt] <;> rfl, by rw [hod2]; exact hoD⟩ e (fun z => nomatch z) fun tk => ⟨.bl b, H, I.tok tk, rfl, q⟩
/-- e.value -/
def tVl (K : PySem.W.Frag) (te : TE) : TE := fun σ H Q => te σ H fun x H1 => ∃ (a dx : Addr) (y : V) (P : Program) (mg : Str → Option Value) (z : Str), x = .ref a ∧ ErrC P K mg z ∧ H1 a = some (exq a (He.ga K z) (some dx)) ∧ H1 dx = some (.xd [(("value" : Str), y)]) ∧ Q y H1
theorem pe_vl {e : Expr} {te : TE} {pos : Pos} (he : PE X e te) (hb : attributeBase e "value" X.env (eval e X.env) = eval e X.env) : PE X (.Attribute e "value" pos) (tVl X.K te) := by
  refine ⟨fun pins s σ H Q I h => ?_⟩
  refine attr_of hb (thn (he.run pins s σ H _ I h) fun u s1 hh => ?_)
  obtain ⟨x, H1, I1, rx, a, dx, y, P, mg, z, ex, T, ea, ed, q⟩ := hh
  subst ex
  obtain rfl : u = Value.ref a := rx
  obtain ⟨oe, vx, ho, hoc, hod2, hdt⟩ := exq_at I1.hok ea
  obtain ⟨mA, hns, rel⟩ := xd_at I1.hok ed
  obtain ⟨od, hod, hl⟩ := lookIn_ns hns
  obtain ⟨u, hu, ru⟩ := RelO.some_of (v := y) (o := mA "value") (rel "value")
  exact HandSPX.exc_get I1.kIn ⟨ho, hoc, by unfold PySem.W.notCls; rw [hdt] <;> rfl, by rw [hod2]; exact hod⟩ T.xf.ga T.xf.gg T.xf.exC (PySem.W.findObj_own T.xf.hdC T.noat rfl (by rw [hl, hu])) (handed_of ru) ⟨y, H1, I1.tok _, ru, q⟩
end
end EVX

namespace EVX
open PySem PySem.Spec PyProof.Rows L2
/-! raise C(e): the error as it is thrown -/
def tThrow (C : Addr) (ta : TA) : L2.St → Hp → XK → Prop := fun σ H Q => ta σ H fun xs H1 => ∃ y, xs = [y] ∧ ∀ dx, H1 dx = none → Q (.ref C) (some dx) (upd H1 dx (.xd [(("value" : Str), y)]))
section
variable {X : Cx} {e : Expr} {p pos : Pos} {ta : TA}
theorem pmk_err {x : Str} (hr : Room 0 X.A) (T : ErrC X.prog X.K X.mg x) (hg : Gl X x) (ha : PA X [e] ta) (hdb : (x == ("__debug__" : Str)) = false) (he : starEach [e] X.env = (false, eval e X.env) :: starEach [] X.env) (hpl : (backTo pos (starEach [] X.env)).any (·.1) = false) :
    PMk X (.Call (.Name x p) [e] [] pos) (tThrow (He.ga X.K x) ta) := by
  intro pins s0 σ H0 Q I0 h
  refine wpAny_Call_Name_kw (ld_glob I0 hg T.mg ?_ hdb)
  refine PySem.W.callWith_K (h₀ := X.base) I0.ok.mod.kin T.keep (thn (ha.run pos pins s0 σ H0 _ I0 h) fun us s ⟨vs, H, I, r1, q1⟩ => ⟨I.kIn, ?_⟩) he hpl
  obtain ⟨y, rfl, q⟩ := q1
  have hrs : Raises X (.ref (He.ga X.K x)) := raises_own T.exC T.tyC
  obtain ⟨D, f, B, Er, iC, tI⟩ := T.ex
  generalize hCe : He.ga X.K x = C at *
  cases r1 with
  | @cons _ u _ _ ry r0 =>
    cases r0
    obtain ⟨hp, g, dr, tk, os⟩ := s
    obtain ⟨nm, N', qn, bs, bm, hdct, sn, sub, ab, col, dd, k0, k1, k2, k3, k5, hC, hT⟩ := PySem.W.excInit_of I.kIn Er.ve
    obtain ⟨mb, hb, hbm⟩ := I.ok.mod.blt
    have keepB : ∀ b o, X.base.get? b = some o → hp.get? b = some o := fun b o z => (I.bs b o z).1
    have kk : ∀ b o, hp.get? b = some o → ((hp.push (PySem.W.kdv_tup [u])).push (PySem.HandSPX.excO C hp.objs.size)).get? b = some o := fun b o e => Heap.get?_push_of_some _ (Heap.get?_push_of_some _ e)
    have hget : ((hp.push (PySem.W.kdv_tup [u])).push (PySem.HandSPX.excO C hp.objs.size)).get? (hp.objs.size + 1) = some (PySem.HandSPX.excO C hp.objs.size) := by heap_get
    have old : ∀ {b : Addr} {o : Obj}, hp.get? b = some o → b ≠ hp.objs.size + 1 := fun {b o} z => Nat.ne_of_lt (Nat.lt_succ_of_lt (Heap.lt_size z))
    have hgl := I.ok.mod.glob
    refine wpAny_call (PySem.HandSPX.call_own F.excBase_ValueError hT hC (PySem.W.looks_findIn I.kIn iC) (fun self => PySem.W.bind_fn I.kIn self tI) (show 1 ≤ sizeLine by decide) ?_)
    refine init_run (t0 := hp.objs.size) (s := ⟨(hp.push (PySem.W.kdv_tup [u])).push (PySem.HandSPX.excO C hp.objs.size), g, dr, tk, os⟩) B Er (I.kIn.keeps kk) ((I.ok.mod.glob.keeps keepB).keeps kk) ((hb.keeps keepB).keeps kk) hbm ((I.ok.mod.nolimit.keeps keepB).keeps kk) ?_ hget (fun a o z => old (I.kIn _ _ z)) ?_ ?_ (fun h' tk' dx t1 k1 z1 g1 n1 => ?_)
    · rw [make_depth]
      have := hr.dp
      show X.A.depth + _ < _
      omega
    · obtain ⟨o, _, _, z, _⟩ := hgl
      exact old (keepB _ _ z)
    · obtain ⟨o, _, _, z, _⟩ := hb
      exact old (keepB _ _ z)
    · have hsz : hp.objs.size + 2 ≤ dx := by simpa [Heap.push] using z1
      have hda : dx ≠ hp.objs.size + 1 := by omega
      have hna : H (hp.objs.size + 1) = none := I.hok.fresh (Nat.le_succ _)
      have hnd : H dx = none := I.hok.fresh (by show hp.objs.size ≤ dx; omega)
      have nd2 : ∀ {b : Addr} {o : Obj}, ((hp.push (PySem.W.kdv_tup [u])).push (PySem.HandSPX.excO C hp.objs.size)).get? b = some o → b ≠ dx := fun {b o} z => by
        have h2 : ((hp.push (PySem.W.kdv_tup [u])).push (PySem.HandSPX.excO C hp.objs.size)).objs.size = hp.objs.size + 2 := by simp [Heap.push]
        exact Nat.ne_of_lt (Nat.lt_of_lt_of_le (Heap.lt_size z) (by rw [h2]; exact hsz))
      have hu : ∀ b o, b ≠ hp.objs.size + 1 → H b = some o → (upd (upd H dx (exd dx [(("value" : Str), y)])) (hp.objs.size + 1) (exo (hp.objs.size + 1) C (some dx))) b = some o := fun b o nb z => by
        rw [upd_ne nb, upd_ne (ne_of_none z hnd)]; exact z
      have atA : ∀ {b : Addr}, upd H (hp.objs.size + 1) (exo (hp.objs.size + 1) C none) b = none → b ≠ hp.objs.size + 1 := fun {b} z e => by
        rw [e, upd_same] at z
        cases z
      have U : Un (frs X.stack) [] (upd H (hp.objs.size + 1) (exo (hp.objs.size + 1) C none)) (upd (upd H dx (exd dx [(("value" : Str), y)])) (hp.objs.size + 1) (exo (hp.objs.size + 1) C (some dx))) ((hp.push (PySem.W.kdv_tup [u])).push (PySem.HandSPX.excO C hp.objs.size)) h' := {
        keep := fun b o z n _ _ => k1 b o (atA n) z
        slot := fun b o z n _ _ => ⟨o.slots, k1 b o (atA n) z⟩
        free := fun b o z n _ => by
          have nb := atA n
          rw [upd_ne nb] at n
          rw [upd_ne nb, upd_ne (nd2 z)]
          exact n
        there := fun b o z _ => by
          by_cases nb : b = hp.objs.size + 1
          · rw [nb]; exact ⟨_, g1⟩
          · exact ⟨o, k1 b o nb z⟩
        tups := fun b xs z => by
          have nb : b ≠ hp.objs.size + 1 := fun e => by
            rw [e, upd_same] at z
            exact exo_tup (Option.some.inj z)
          rw [upd_ne nb] at z
          exact hu _ _ nb z
        frzs := fun b o v z => by
          have nb : b ≠ hp.objs.size + 1 := fun e => by
            rw [e, upd_same] at z
            exact exo_frz (Option.some.inj z)
          rw [upd_ne nb] at z
          exact hu _ _ nb z
        tbls := fun b ps z => by
          have nb : b ≠ hp.objs.size + 1 := fun e => by
            rw [e, upd_same] at z
            exact exo_tbl (Option.some.inj z)
          rw [upd_ne nb] at z
          exact ⟨#[], by rw [hu _ _ nb z]; simp⟩ }
      have hok : HOk X.prog X.w (upd (upd H dx (exd dx [(("value" : Str), y)])) (hp.objs.size + 1) (exo (hp.objs.size + 1) C (some dx))) h' := fun b o z => by
        by_cases hb1 : b = hp.objs.size + 1
        · subst hb1
          rw [upd_same] at z
          cases z
          exact exo_ok g1
        · rw [upd_ne hb1] at z
          by_cases hd1 : b = dx
          · subst hd1
            rw [upd_same] at z
            cases z
            exact exd_ok n1 (relO_put (fs := []) ry fun g => True.intro)
          · rw [upd_ne hd1] at z
            exact (I.hok b o z).stay (fun c v _ zz => k1 c v (old zz) (kk c v zz)) (fun c hc => hu _ _ (ne_of_none hc hna) hc) (fun c xs hc => hu _ _ (ne_of_none hc hna) hc)
      refine ⟨rfl, ?_⟩
      have hq := q dx hnd
      have eH : upd (del (upd (upd H dx (exd dx [(("value" : Str), y)])) (hp.objs.size + 1) (exo (hp.objs.size + 1) C (some dx))) (hp.objs.size + 1)) dx (.xd [(("value" : Str), y)]) = upd H dx (.xd [(("value" : Str), y)]) := by
        funext b
        by_cases hb1 : b = dx
        · subst hb1
          rw [upd_same, upd_same]
        · rw [upd_ne hb1, upd_ne hb1]
          by_cases hb2 : b = hp.objs.size + 1
          · rw [hb2, del_same, hna]
          · rw [del_ne hb2, upd_ne hb2, upd_ne hb1]
      exact mk_end (d := dx) (fs := [(("value" : Str), y)]) hrs I (Nat.le_succ _) kk U hok rfl I.bare upd_same (by rw [upd_ne hda, upd_same]) hnd (by rw [eH]; exact hq)
end
end EVX

namespace EVX
open PySem PySem.Spec PyProof.Rows L2
section
variable {X : Cx} {pins : List (Addr × Obj)} {σ : L2.St} {H : Hp} {s : Shared}
/-- an object that is there, new since the frame's start, is known from now on -/
theorem adopt {a : Addr} {o : HO} {oe : Obj} {vs : Array Value} (I : Inv X pins σ H s) (new : X.s_0.heap.get? a = none) (ha : H a = none) (there : s.heap.get? a = some oe) (fld : oe.data = .fields vs) (nl : a ≠ X.env.locals) (np : ∀ p, p ∈ X.pn ++ pins → p.1 ≠ a)
    (ok : ObjOk X.prog X.w (upd H a o) s.heap a o) : Inv X pins σ (upd H a o) s := by
  have up : ∀ b u, H b = some u → upd H a o b = some u := fun b u e => by rw [upd_ne (ne_of_none e ha)]; exact e
  have old : ∀ b u, X.s_0.heap.get? b = some u → b ≠ a := fun b u e z => by rw [z, new] at e; cases e
  refine ⟨I.ok, I.os, I.bare, ⟨I.base.keep, I.base.slot, fun b u e n hx => by rw [upd_ne (old b u e)]; exact I.base.free b u e n hx, I.base.there, fun b xs e => up _ _ (I.base.tups b xs e), fun b u v e => up _ _ (I.base.frzs b u v e), fun b ps e => ?_⟩,
    I.loc, I.cell, by rw [upd_ne (Ne.symm nl)]; exact I.free, fun y c e => ?_, fun p hp => ?_, fun b u e => ?_, I.len⟩
  · obtain ⟨more, q⟩ := I.base.tbls b ps e
    exact ⟨more, up _ _ q⟩
  · have nc : c ≠ a := fun z => by
      obtain ⟨v, q, h1, h2⟩ := I.cell y c e
      rw [z, there] at h1
      cases h1
      rw [fld] at h2
      cases h2
    rw [upd_ne nc]
    exact I.freeC y c e
  · obtain ⟨e1, e2, e3⟩ := I.pin p hp
    exact ⟨e1, by rw [upd_ne (np p hp)]; exact e2, e3⟩
  · by_cases hb : b = a
    · subst hb
      rw [upd_same] at e
      cases e
      exact ok
    · rw [upd_ne hb] at e
      exact (I.hok b u e).stay (fun c v _ z => z) (fun c z => up _ _ z) fun c xs z => up _ _ z
end

/-- what is wished where all that is raised is caught, held on behind the suite -/
def wKeep (K : PySem.W.Frag) (c : Value) (i : Nat) (ts : Addr → TS) (D : Ends) : WX := fun cls d σ H =>
  ∃ C : Addr, cls = .ref C ∧ PySem.W.exmOne K cls c = some true ∧ ∀ a, H a = none → ts a { nx := fun σ2 H2 => H2 a = none → D.nx (σ2.set i none) (upd H2 a (exq a C d)), rt := fun _ _ => False, bk := fun _ _ => False, ct := fun _ _ => False } (σ.set i (some (.ref a))) H
section
variable {X : Cx} {x n : Str} {c : Value} {i : Nat} {b1 bs : Stmt} {p1 p2 p3 : Pos} {tb : WX → TS} {ts : Addr → TS}
theorem ps_try_keep (hst : X.stack = X.env :: X.outer) (hfl : X.env.frame = some X.env.locals) (hnd : X.N.Nodup) (hni : X.N[i]? = some n) (hloc : X.env.kindOf n = some .local) (hex : X.ex = []) (hcl : Names X x c)
    (hbody : ∀ (W : WX) (pn : List (Addr × Obj)) (xe : Value → Shared → Prop), Takes (X.tr pn xe) W → PassesOwn (model X.prog X.w) X.A X.env xe → PSs (X.tr pn xe) [b1] (tb W))
    (hsuite : ∀ (a : Addr) (oe : Obj) (pn : List (Addr × Obj)), PSs (X.suite a ((a, oe) :: pn)) [bs] (ts a)) :
    PS X (.Try [b1] [.ExceptHandler (some (.Name x p1)) (some n) [bs] p2] [] [] p3) (fun D σ H => tb (wKeep X.K c i ts D) D σ H) := by
  refine ⟨fun pins s σ H D I h => ?_⟩
  have xok := I.ok
  have frm : X.A.frames = some (X.env :: X.outer) := by rw [xok.frames, hst]
  refine wpAny_Try_except ?_
  have run := hbody (wKeep X.K c i ts D) (X.pn ++ pins) (fun e t1 => wpAny (model X.prog X.w) X.A (noteFrame e X.env) (fun _ t2 => wpAny (model X.prog X.w) X.A (setFlight e none) (fun _ t3 =>
    wpAny (model X.prog X.w) X.A (handleBy e X.env [.ExceptHandler (some (.Name x p1)) (some n) [bs] p2]) (SP X pins D) X.xe t3) X.xe t2) X.xe t1) (fun u t xx => ?_) PassesOwn.looking
  · refine wpAny_mono (run.run [] s σ H D (I.toTry _) h) (fun f t1 hsp => ?_) (fun e t1 he => he)
    cases f with
    | next => obtain ⟨σ2, H2, J2, q⟩ := hsp; exact wpAny_execs_nil ⟨σ2, H2, J2.ofTry xok, q⟩
    | brk => obtain ⟨σ2, H2, J2, q⟩ := hsp; exact ⟨σ2, H2, J2.ofTry xok, q⟩
    | cont => obtain ⟨σ2, H2, J2, q⟩ := hsp; exact ⟨σ2, H2, J2.ofTry xok, q⟩
    | ret u => obtain ⟨v, σ2, H2, J2, r, q⟩ := hsp; exact ⟨v, σ2, H2, J2.ofTry xok, r, q⟩
  · obtain ⟨a, G, s0, pins2, σ2, H2, cls, d, rfl, J2, nb, up, sky, na, os, ag, C, hC, hex1, hyes⟩ := xx
    have J : Inv X pins σ2 H2 s0 := J2.ofTry xok
    have sky2 : Sky G (X.env :: X.outer) a (Zc cls d) X.env.locals t.heap := by rw [← hst]; exact sky
    show wpAny (model X.prog X.w) X.A (noteFrame (.ref a) X.env) _ _ _
    refine Sky.land Zc.steady frm hfl sky2 fun g3 fl3 up3 => ?_
    have J3 : Inv X pins σ2 H2 { t with heap := g3 } := J.landed nb fl3.1 (up.trans up3) os ag
    obtain ⟨oe3, vs3, he3, hz3, hd3⟩ := fl3.there
    have nfr : a ∉ frs (X.env :: X.outer) := fun hm => by
      obtain ⟨_, o2, e2, hnf⟩ := fl3.2.2.1.mem hm
      rw [he3] at e2
      cases e2
      exact hnf _ hd3
    have nL : a ≠ X.env.locals := fun z => nfr (List.mem_filterMap.mpr ⟨X.env, List.mem_cons_self, by rw [hfl, z]⟩)
    have nF : a ∉ X.fs := fun hm => by
      obtain ⟨e, he, q⟩ := List.mem_filterMap.mp hm
      exact nfr (List.mem_filterMap.mpr ⟨e, List.mem_cons_of_mem _ he, q⟩)
    have gone : s0.heap.get? a = none := by
      cases q : s0.heap.get? a with
      | none => rfl
      | some o =>
        have z := nb a o q (by rw [show (X.tr (X.pn ++ pins) _).stack = X.env :: X.outer from hst]; exact nfr)
        rw [fl3.2.1] at z
        cases z
    have new : X.s_0.heap.get? a = none := by
      cases q : X.s_0.heap.get? a with
      | none => rfl
      | some o =>
        obtain ⟨o2, z⟩ := J.base.there a o q (by rw [hex]; simp)
        rw [gone] at z
        cases z
    have S3 := J3.suite he3 hd3 na nL nF
    refine wpAny_handleBy_cons (codeAny_handlers_test ?_) (by intro q; cases q)
    have tyA : PySem.W.Looks (model X.prog X.w) g3 (typeOf (.ref a)) cls := fun A Q E s k q => wpAny_typeOf_ref (k _ _ he3) (by rw [hz3.1]; exact q)
    have mat := PySem.W.exm_one (M := model X.prog X.w) J3.kIn tyA hex1
    have look : ∀ {Q : Value → Shared → Prop} {E : Value → Shared → Prop}, Q c { t with heap := g3 } → wpAny (model X.prog X.w) (X.A.mark (some (.ref a))) (eval (.Name x p1) X.env) Q E { t with heap := g3 } := fun {Q E} q => by
      obtain ⟨hg, hdbg, hm | ⟨hm, hv, hnn⟩⟩ := hcl
      · exact ld_glob (X := X.suite a ((a, oe3) :: (X.pn ++ pins))) S3 hg hm q hdbg
      · exact ld_blt (X := X.suite a ((a, oe3) :: (X.pn ++ pins))) S3 hg hm hv q hnn hdbg
    refine look (mat.here ?_)
    refine codeAny_handlers_suite_as ?_
    refine HandSPX.lands_againZ fl3 fun g4 fl4 up4 => ?_
    have J4 : Inv X pins σ2 H2 { t with heap := g4 } := J.landed nb fl4.1 ((up.trans up3).trans up4) os ag
    obtain ⟨oe4, vs4, he4, hz4, hd4⟩ := fl4.there
    have S4 := J4.suite he4 hd4 na nL nF
    refine store_ok (X := X.suite a ((a, oe4) :: (X.pn ++ pins))) (v := .ref a) S4 hnd hni (.inl hloc) rfl (fun s5 S5 => ?_) (.inr hloc)
    refine wpAny_mono ((hsuite a oe4 (X.pn ++ pins)).run [] s5 _ H2 _ S5 (hyes a na)) (fun f s6 hsp => ?_) (fun _ _ z => False.elim z)
    cases f with
    | brk => obtain ⟨_, _, _, q⟩ := hsp; exact q.elim
    | cont => obtain ⟨_, _, _, q⟩ := hsp; exact q.elim
    | ret u => obtain ⟨_, _, _, _, _, q⟩ := hsp; exact q.elim
    | next =>
      obtain ⟨σ6, H6, S6, q6⟩ := hsp
      have K6 : Inv X ((a, oe4) :: pins) σ6 H6 s6 := ⟨xok, S6.os, S6.bare, S6.base, S6.loc, S6.cell, S6.free, S6.freeC, fun p hp => S6.pin p (by
        rcases List.mem_append.mp hp with z | z
        · exact List.mem_append_left _ (List.mem_cons_of_mem _ (List.mem_append_left _ z))
        · rcases List.mem_cons.mp z with z | z
          · rw [z]; exact List.mem_append_left _ List.mem_cons_self
          · exact List.mem_append_left _ (List.mem_cons_of_mem _ (List.mem_append_right _ z))), S6.hok, S6.len⟩
      refine gone_ok K6 hnd hni hloc fun s7 K7 => ?_
      obtain ⟨e1, e2, e3, e4⟩ := K7.pin (a, oe4) (List.mem_append_right _ List.mem_cons_self)
      have K8 : Inv X pins (σ6.set i none) H6 s7 := ⟨xok, K7.os, K7.bare, K7.base, K7.loc, K7.cell, K7.free, K7.freeC, fun p hp => K7.pin p (by
        rcases List.mem_append.mp hp with z | z
        · exact List.mem_append_left _ z
        · exact List.mem_append_right _ (List.mem_cons_of_mem _ z)), K7.hok, K7.len⟩
      have hcl2 : oe4.cls = .ref C := by rw [hz4.1, hC]
      refine ⟨_, _, adopt K8 new e2 e1 hd4 nL (fun p hp z => ?_) (exq_ok e1 hcl2 hz4.2 hd4), q6 e2⟩
      obtain ⟨y1, _⟩ := J.pin p hp
      rw [z, gone] at y1
      cases y1
end
end EVX

namespace EVX
open PySem PySem.Spec PyProof.Rows L2 LamX
theorem deep_gd {A : Around} {env : Env} (h : A.guards = some []) : (A.deeper env).guards = some [] := by
  first
    | exact h
    | (simpa [Around.deeper, Around.under, Code.guards, pushGuards, Code.isGuard] using h)
section
variable {X : Cx} {pins : List (Addr × Obj)} {σ : L2.St} {H : Hp} {s : Shared}
/-- the call of the lambda that a def got: what it raises is wished with the slots of the call -/
theorem pe_does {XT : CXT} {Ex : XK} {Nd : List Str} {nd : Str} {sd : Scope} {d f c2 : Addr} {cv pm ctv : Value} {params : Arguments} {body : Expr} {scope : Scope} {k i : Nat} {a : Str} {pn : List (Addr × Obj)} {xe : Value → Shared → Prop} {W : WX} {tb : XK → TE} {p1 p2 : Pos}
    (I : Inv X pins σ H s) (L : LamS X.env.scope scope) (lam : s.heap.get? f = some (PySem.W.kla_obj "<lambda>" (X.env.qual ++ "<lambda>") params body scope (cloFrom X.env.cells scope.names []) pm c2 ctv)) (nf : H f = none) (fr : f ∉ frs X.stack)
    (noArg : bindArgs (PySem.W.kla_fn "<lambda>" (X.env.qual ++ "<lambda>") params body scope (cloFrom X.env.cells scope.names []) pm (.ref c2) ctv) ⟨[], []⟩ = pure [])
    (tk : Takes ((cxOf XT X.prog X.w X.K X.mg X.base Nd nd sd d cv X.A X.stack s H Ex).tr pn xe) W) (rm : Room (k + 1) (X.A.deeper (envOfC nd sd s.heap.objs.size d cv))) (gd : X.A.guards = some [])
    (does : ∀ (E : XK) (A : Around) (outer : List Env) (s : Shared) (H : Hp), Room k (A.deeper (lamEnv X scope s.heap.objs.size f c2)) → (A.deeper (lamEnv X scope s.heap.objs.size f c2)).guards = some [] → PE (lamCx X A outer s H E scope f c2) body (tb E))
    (hN : Nd[i]? = some a) (hv : Vis sd a) (hd : (a == ("__debug__" : Str)) = false) (hcd : (a == ("__classdict__" : Str)) = false) :
    PE ((cxOf XT X.prog X.w X.K X.mg X.base Nd nd sd d cv X.A X.stack s H Ex).tr pn xe) (.Call (.Name a p1) [] [] p2)
      (fun τ HZ Q => τ[i]? = some (some (.ref f)) ∧ HZ c2 = some (CodeO c2 (X.env.qual ++ "<lambda>")) ∧ ∃ E : XK, (∀ cls dd H2, E cls dd H2 → W cls dd τ H2) ∧ tb E σ HZ Q) := by
  refine ⟨fun pz sZ τ HZ Q IZ h => ?_⟩
  obtain ⟨at0, code, E, wish, body_t⟩ := h
  refine wpAny_Call_Name_kw (thn ((pe_var (pos := p1) (i := i) hN hv hd hcd).run pz sZ τ HZ (fun v H1 => v = .ref f ∧ H1 = HZ) IZ ⟨.ref f, at0, rfl, rfl⟩) fun u s1 ⟨v, H1, I1, r1, q1⟩ => ?_)
  obtain ⟨ev, eH⟩ := q1
  subst ev
  rw [eH] at I1
  obtain rfl : u = Value.ref f := r1
  have lam1 : s1.heap.get? f = some (PySem.W.kla_obj "<lambda>" (X.env.qual ++ "<lambda>") params body scope (cloFrom X.env.cells scope.names []) pm c2 ctv) := I1.base.keep f _ lam nf fr (fun z => nomatch (show f ∈ ([] : List Addr) from z))
  refine PySem.W.callWith_F0 ⟨_, _, _, _, lam1⟩ ?_
  have un : Un (frs X.stack) [] H HZ s.heap s1.heap := I1.base
  obtain ⟨⟨oc, us, t, co1, co2, co3⟩, _, _⟩ := I1.hok c2 _ code
  have rc : codeAny (model X.prog X.w) (X.A.deeper (envOfC nd sd s.heap.objs.size d cv)) (.call (.ref f) ⟨[], []⟩) (CR (L2.CX X.prog X.w) (envOfC nd sd s.heap.objs.size d cv :: X.stack) X.prog X.w HZ s1 Q E) s1 := by
    refine PySem.W.kla_callFunE rm.depth lam1 rfl L.co L.gen rfl ⟨c2, oc, us, t, rfl, co1, co2, co3⟩ ?_
    rw [noArg]
    refine wpAny_pure (wpAny_newFunctionEnv (fun y hy => (L.own y hy).2) (fun y hy => absurd hy (by simp)) (fun g1 hns hsb => ⟨I1.nolimit.fresh _ hsb, ?_⟩) L.kind)
    show codeAny _ _ (.expr body (lamEnv X scope s1.heap.objs.size f c2)) _ _
    have kp : ∀ b o, s1.heap.get? b = some o → g1.get? b = some o := fun b o e => hsb.extBut b o (Nat.ne_of_lt (Heap.lt_size e)) (Heap.get?_push_of_some _ e)
    have J : Inv (lamCx X (X.A.deeper (envOfC nd sd s.heap.objs.size d cv)) (envOfC nd sd s.heap.objs.size d cv :: X.stack) s1 HZ E scope f c2) [] σ HZ { s1 with heap := g1, toks := s1.toks + ([] : List (Str × Value)).length } :=
      lam_start2 I L I1.env0 rm.hd un hns kp
    refine PySem.W.kla_codeExpr (wpAny_mono ((does E _ _ s1 HZ (rm.deeper _) (deep_gd (deep_gd gd))).run [] _ _ HZ Q J body_t) (fun v s2 hq => ?_) fun e s2 hq => hq)
    obtain ⟨w2, H2, J2, rv, q⟩ := hq
    exact ⟨w2, H2, J2.os, J2.bare, J2.base, J2.hok, rv, q⟩
  refine wpAny_call (codeAny_mono rc fun r s2 hq => ?_)
  cases r with
  | error e => exact tk _ _ (XE.of_call I1 wish hq)
  | ok fl =>
    cases fl with
    | ret u => exact I1.after hq
    | next => exact False.elim hq
    | brk => exact False.elim hq
    | cont => exact False.elim hq
end
end EVX

namespace EVX
open PySem PySem.Spec PyProof.Rows L2 LamX
section
variable {X : Cx} {pins : List (Addr × Obj)} {σ : L2.St} {H : Hp} {s : Shared}
/-- behind the making: the table as it was, the code object in it, or the table with a new one -/
def Laid (H : Hp) (P : Addr) (ps : Array Value) (q : Str) (c2 : Addr) (H1 : Hp) : Prop :=
  (H1 = H ∧ ∃ pos, codeAmong pos ps.toList = some (.ref c2)) ∨ ∃ pos : Pos, H c2 = none ∧ c2 ≠ P ∧ H1 = upd (upd H P (.tbl (ps ++ #[rawInt pos.line, rawInt pos.col, .ref c2]))) c2 (CodeO c2 q)
theorem lam_laid {c P : Addr} {ps : Array Value} {params : Arguments} {body : Expr} {scope : Scope} {pos : Pos} {E : Value → Shared → Prop} {Q : Value → Shared → Prop} (I : Inv X pins σ H s) (TB : TabB X.base X.mg c P) (hc : X.env.code = .ref c)
    (tab : H P = some (.tbl ps)) (tri : TriplesOk ps.toList) (codes : ∀ (p2 : Pos) (cv : Value), codeAmong p2 ps.toList = some cv → ∃ c, cv = .ref c ∧ H c = some (CodeO c (X.env.qual ++ "<lambda>"))) (nodef : defaultsOf params X.env = ([], [])) (cells : ∀ y ∈ scope.names, y.2 = .free → ∃ c, X.env.cells.lookup y.1 = some c)
    (go : ∀ (f c2 : Addr) (pm ctv : Value) (H1 : Hp) (s2 : Shared), Inv X pins σ H1 s2 → Laid H P ps (X.env.qual ++ "<lambda>") c2 H1 →
      s2.heap.get? f = some (PySem.W.kla_obj "<lambda>" (X.env.qual ++ "<lambda>") params body scope (cloFrom X.env.cells scope.names []) pm c2 ctv) → H1 f = none → f ∉ frs X.stack → H1 c2 = some (CodeO c2 (X.env.qual ++ "<lambda>")) → Q (.ref f) s2) :
    wpAny (model X.prog X.w) X.A (eval (.Lambda params body scope pos) X.env) Q E s := by
  refine PySem.W.kla_eval nodef ?_
  have bm : s.heap.BuiltinsAt X.mg P := TB.bm.keeps I.bk
  have atP : s.heap.get? P = some { cls := .none, data := .fields ps } := I.hok P _ tab
  have off : ∀ f, s.heap.objs.size ≤ f → f ∉ frs X.stack := fun f hf z => by
    rcases List.mem_cons.mp (I.stkSub _ z) with e | e
    · have l1 := I.lt
      rw [← e] at l1
      exact absurd (Nat.lt_of_lt_of_le l1 hf) (Nat.lt_irrefl _)
    · exact I.nofs hf e
  cases am : codeAmong pos ps.toList with
  | some cv =>
    obtain ⟨c2, e, there⟩ := codes pos cv am
    subst e
    refine PySem.W.kla_makeFunctionHit (mg := X.mg) (c := c) (P := P) (ps := ps) (closure_ok cells) I.ok.glob (I.mod.glob.keeps I.bk) hc (TB.code.keeps I.bk) atP tri am bm fun ctv g tk keep sz => ?_
    have J := I.kept (t' := tk) (h' := g.push (PySem.W.kla_obj "<lambda>" (X.env.qual ++ "<lambda>") params body scope (cloFrom X.env.cells scope.names []) ((X.mg "__name__").getD .none) c2 ctv)) fun b o e => Heap.get?_push_of_some _ (keep b o e)
    exact go g.objs.size c2 _ ctv H _ J (.inl ⟨rfl, pos, am⟩) (Heap.get?_push_size _ rfl) (I.hok.fresh sz) (off _ sz) there
  | none =>
    refine PySem.W.kla_makeFunction (mg := X.mg) (c := c) (P := P) (ps := ps) (closure_ok cells) I.ok.glob (I.mod.glob.keeps I.bk) hc (TB.code.keeps I.bk) atP tri am TB.gP bm fun c2 ctv g tk keep ge lt rec tb => ?_
    obtain ⟨c3, oc, vs, t, e3, co1, co2, co3⟩ := rec
    cases e3
    have sz : s.heap.objs.size ≤ g.objs.size := Nat.le_trans ge (Nat.le_of_lt lt)
    have nc : H c2 = none := I.hok.fresh ge
    have J := inv_table (t' := tk) (more := #[rawInt pos.line, rawInt pos.col, .ref c2]) (h' := g.push (PySem.W.kla_obj "<lambda>" (X.env.qual ++ "<lambda>") params body scope (cloFrom X.env.cells scope.names []) ((X.mg "__name__").getD .none) c2 ctv)) I tab
      (fun b o hb e => Heap.get?_push_of_some _ (keep b o hb e)) (Heap.get?_push_of_some _ tb) ge ⟨oc, vs, t, Heap.get?_push_of_some _ co1, co2, co3⟩
    refine go g.objs.size c2 _ ctv _ _ J (.inr ⟨pos, nc, Ne.symm (ne_of_none tab nc), rfl⟩) (Heap.get?_push_size _ rfl) ?_ (off _ sz) upd_same
    have m1 : g.objs.size ≠ c2 := Nat.ne_of_gt lt
    have m2 : g.objs.size ≠ P := Nat.ne_of_gt (Nat.lt_of_lt_of_le (Heap.lt_size atP) sz)
    rw [upd_ne m1, upd_ne m2]
    exact I.hok.fresh sz
end
end EVX

namespace EVX
open PySem PySem.Spec PySem.Calls PyProof.Rows L2
section
variable {prog : Program} {w : World} {A : Around} {E : Value → Shared → Prop} {s : Shared}
theorem adj_back (n : Nat) : Builtin.Slice.sliceAdjust none none (-1) (n : Int) = ((n : Int) - 1, -1) := by
  unfold Builtin.Slice.sliceAdjust
  simp
theorem plc_back (n : Nat) : Builtin.Slice.slicePlaces ((n : Int) - 1) (-1) (-1) = n := by
  unfold Builtin.Slice.slicePlaces
  have h1 : ¬ ((-1 : Int) > 0) := by decide
  simp only [h1, if_false]
  split
  · rw [show (- -1 : Int) = 1 by decide, Int.ediv_one]; omega
  · omega
theorem applied_back {sl : Addr} {vs : Value} {n : Nat} {Q : Int × Int × Nat → Shared → Prop} (hs : s.heap.IsSliceOf sl .none .none vs) (pv : IsPart vs (some (-1))) (h : Q ((n : Int) - 1, -1, n) s) : wpAny (model prog w) A (Builtin.Slice.sliceApplied (.ref sl) (pure (n : Int))) Q E s := by
  obtain ⟨os, hos, hcs, hds⟩ := id hs
  unfold Builtin.Slice.sliceApplied Builtin.Slice.sliceFields
  refine wpAny_bind (wpAny_bind (wpAny_field hos hds (x := .none) rfl (wpAny_bind (wpAny_field hos hds (x := .none) rfl (wpAny_bind (wpAny_field hos hds (x := vs) rfl (wpAny_pure ?_)))))))
  refine wpAny_bind (HT.slicePart_ pv ?_)
  show wpAny _ _ (if ((-1 : Int) == 0) = true then _ else _) _ _ s
  rw [if_neg (by decide)]
  refine wpAny_bind (HT.slicePart_ .none (wpAny_bind (HT.slicePart_ .none (wpAny_bind (wpAny_pure ?_)))))
  show wpAny _ _ (match Builtin.Slice.sliceAdjust none none (-1) (n : Int) with | (lo, hi) => pure (lo, (-1 : Int), Builtin.Slice.slicePlaces lo hi (-1))) _ _ s
  rw [adj_back n]
  show wpAny _ _ (pure ((n : Int) - 1, (-1 : Int), Builtin.Slice.slicePlaces ((n : Int) - 1) (-1) (-1))) _ _ s
  rw [plc_back]
  exact wpAny_pure h
theorem fm_congr {α β : Type} {f g : α → Option β} : ∀ {l : List α}, (∀ x, x ∈ l → f x = g x) → l.filterMap f = l.filterMap g
  | [], _ => rfl
  | x :: l, h => by
    have ih := fm_congr (l := l) fun y hy => h y (List.mem_cons_of_mem _ hy)
    rw [List.filterMap_cons, List.filterMap_cons, h x (List.mem_cons_self ..), ih]
theorem pick_back (xs : Array Value) : ((List.range xs.size).filterMap fun (m : Nat) => xs[(((xs.size : Int) - 1) + (m : Int) * (-1)).toNat]?).toArray = xs.toList.reverse.toArray := by
  have e : (List.range xs.size).filterMap (fun (m : Nat) => xs[(((xs.size : Int) - 1) + (m : Int) * (-1)).toNat]?) = ((List.range xs.size).map fun k => xs.size - 1 - k).filterMap (xs[·]?) := by
    rw [List.filterMap_map]
    refine fm_congr fun m hm => ?_
    have := List.mem_range.mp hm
    have e2 : (((xs.size : Int) - 1) + (m : Int) * (-1)).toNat = xs.size - 1 - m := by omega
    rw [e2]
    rfl
  rw [e, PySem.W.krv_range, List.filterMap_reverse, PySem.W.krv_all]
theorem item_back {t sl : Addr} {items : Array Value} {vs : Value} {Q : Value → Shared → Prop} (ht : IsTup s.heap t items) (hs : s.heap.IsSliceOf sl .none .none vs) (pv : IsPart vs (some (-1)))
    (h : Q (.ref s.heap.objs.size) { s with heap := s.heap.push { cls := .type "tuple", data := .seq items.toList.reverse.toArray } }) (hz : items.size ≤ sizeLine) : wpAny (model prog w) A (getItem (.ref t) (.ref sl)) Q E s := by
  have fits : sizeOk (.seq items.toList.reverse.toArray) := by
    show items.toList.reverse.toArray.size ≤ sizeLine
    rw [List.size_toArray, List.length_reverse, Array.length_toList]
    exact hz
  obtain ⟨os, hos, hcs, hds⟩ := id hs
  have isS : s.TypeIs (.ref sl) "slice" := ⟨os, hos, hcs⟩
  unfold getItem
  try with_reducible refine wpAny_holding ?_
  first | refine wpAny_bind (wpAny_pure ?_) | skip
  refine wpAny_bind (wpAny_sequenceKey ht.typeIs (by decide) ?_)
  refine wpAny_bind (wpAny_callSpecial?_slot (name := Str.ofString "__getitem__") ht.typeIs PyProof.Rows.slot_tuple_getitem (wpAny_call_entry PyProof.Rows.slot_tuple_getitem ht.typeIs entry_tuple_getitem ?_ (args_tuple_getitem _ _)))
  show wpAny _ _ (Builtin.Tuple.tupleItemsOf (.ref t) >>= _) _ _ s
  refine wpAny_bind (tupleItemsOf_ ht ?_)
  refine wpAny_bind (wpAny_typeOf isS ?_)
  rw [if_pos (by decide)]
  refine wpAny_bind (applied_back hs pv ?_)
  have no : ¬ ((((items.size : Int) - 1) == 0 && (-1 : Int) == 1 && items.size == items.size) = true) := by simp
  show wpAny _ _ (if (((items.size : Int) - 1) == 0 && (-1 : Int) == 1 && items.size == items.size) = true then _ else _) _ _ s
  rw [if_neg no, pick_back]
  first
    | exact wpAny_bind (m := Builtin.Tuple.tupleExact _) (wpAny_newObj_type (wpAny_pure ⟨_, rfl, wpAny_pure h⟩) fits)
    | exact wpAny_bind (m := Builtin.Tuple.tupleExact _) (wpAny_newObj_type (wpAny_bind (wpAny_pure (wpAny_pure ⟨_, rfl, wpAny_pure h⟩))) fits)
    | exact wpAny_bind (wpAny_bind (m := Builtin.Tuple.tupleExact _) (wpAny_newObj_type (wpAny_pure (wpAny_pure ⟨_, rfl, wpAny_pure h⟩)) fits))
    | exact wpAny_bind (wpAny_bind (m := Builtin.Tuple.tupleExact _) (wpAny_newObj_type (wpAny_pure ⟨_, rfl, wpAny_pure h⟩) fits))
end
section
variable {X : Cx}
/-- x[::-1] of a list or a tuple -/
def tBack (K : PySem.W.Frag) (te : TE) : TE := fun σ H Q => te σ H fun x H1 => ∃ a xs, x = .ref a ∧ ((SqL K H1 a xs ∧ ∀ p, H1 p = none → Q (.ref p) (upd H1 p (.lst xs.reverse))) ∨ (SqT K H1 a xs ∧ ∀ p, H1 p = none → Q (.ref p) (upd H1 p (.tup xs.reverse))))
theorem pe_back {e : Expr} {te : TE} {k : Nat} {p1 p2 p3 pos : Pos} (he : PE X e te) : PE X (.Subscript e (.Slice none none (some (.UnaryOp .USub (.Constant (.int 1) k p1) p2)) p3) pos) (tBack X.K te) := by
  refine ⟨fun pins s σ H Q I h => ?_⟩
  refine Subscript_ (thn (he.run pins s σ H _ I h) fun v s1 ⟨x, H1, I1, r1, q1⟩ => ?_)
  obtain ⟨a, xs, ex, q⟩ := q1
  subst ex
  cases r1
  have stp : PO X (some (.UnaryOp .USub (.Constant (.int 1) k p1) p2)) (tPart (tUn (rU fun i => .int (-i)) (tC (.int 1)))) := po_some (pe_un un_neg pe_int)
  refine wpAny_Slice ?_
  rw [evalPart_none]
  refine wpAny_pure ?_
  refine wpAny_pure ?_
  refine thn (stp.run pins s1 σ H1 (fun o H4 => o = some (-1) ∧ H4 = H1) I1 ⟨1, rfl, -1, rfl, rfl, rfl⟩) fun vs s4 ⟨o, H4, I4, pv, eo, e4⟩ => ?_
  subst eo e4
  have I5 : Inv X pins σ H4 { s4 with heap := s4.heap.push { cls := .type "slice", data := .fields #[.none, .none, vs] } } := I4.kept (t' := s4.toks) fun b ob q => Heap.get?_push_of_some _ q
  show wpAny (model X.prog X.w) X.A (subscriptTail e (.Slice none none (some (.UnaryOp .USub (.Constant (.int 1) k p1) p2)) p3) (.ref a) (.ref s4.heap.objs.size)) (EP X pins σ Q) X.xe { s4 with heap := s4.heap.push { cls := .type "slice", data := .fields #[.none, .none, vs] } }
  rcases q with ⟨hx, q⟩ | ⟨hx, q⟩
  · obtain ⟨its, r, ht, hz⟩ := I5.list hx
    have hlen := r.length
    refine tail_any (ops := [.ref a, .ref s4.heap.objs.size]) ht.isList.typeIs (PySem.slot_list_getitem.lookup) ?_ (by with_unfolding_all rfl)
    refine wpAny_getItem_list_slice ht.isList (Heap.IsSliceOf.new _ .none .none vs) .none .none pv (by decide) ?_ (by rw [List.size_toArray]; omega)
    rw [PySem.W.krv_pick]
    refine ⟨.ref _, _, I5.laid (t' := s4.toks) (o := .lst xs.reverse) (fun b ob q => Heap.get?_push_of_some _ q) (Nat.le_refl _) ⟨by rw [List.length_reverse]; exact hz, _, 0, r.reverse, Heap.get?_push_size _ rfl⟩, rfl, q _ (I5.hok.fresh (Nat.le_refl _))⟩
  · obtain ⟨its, r, ht, hz⟩ := I5.tuple hx
    have hlen := r.length
    refine tail_any (ops := [.ref a, .ref s4.heap.objs.size]) ht.typeIs PyProof.Rows.slot_tuple_getitem.lookup ?_ (by with_unfolding_all rfl)
    refine item_back ht (Heap.IsSliceOf.new _ .none .none vs) pv ?_ (by rw [List.size_toArray]; omega)
    refine ⟨.ref _, _, I5.laid (t' := s4.toks) (o := .tup xs.reverse) (fun b ob q => Heap.get?_push_of_some _ q) (Nat.le_refl _) ⟨by rw [List.length_reverse]; exact hz, _, r.reverse, IsTup.new _ _⟩, rfl, q _ (I5.hok.fresh (Nat.le_refl _))⟩
end
end EVX

namespace EVX
open PySem PySem.W PySem.Calls PyProof.Rows Builtin
section
variable {prog : Program} {w : World} {A : Around} {E : Value → Shared → Prop} {s : Shared} {K : Frag} {x C f : Addr} {ox : Obj} {od : Option Obj} {b tb : Value}
theorem ne_bind (self : Value) : bindSpecial (.builtin "object.__ne__") self = pure (.builtin "object.__ne__", [self]) :=
  (Slot.of (T := "object") (name := "__ne__") (owner := "object") (n := "__ne__") (by rw [typeLookup_type, builtinLookup_eq_fast]; kernel_rfl) (by decide +kernel) (by decide +kernel) (by decide +kernel)
    (.inl (by decide +kernel)) (by rw [isSubtype_type]; kernel_rfl)).bind self
theorem ne_plain : plainId "object.__ne__" = true := by decide +kernel
theorem ifBound_ne {M : Model} {args : List Value} {Q : Option Value → Shared → Prop} (X : K.In s.heap) (I : InstAt s.heap x ox C od) (hs : findIn K (.ref C) "__ne__" = some (some (.builtin "object.__ne__")))
    (h : wpAny M A (call (.builtin "object.__ne__") (.ref x :: args)) (fun v => Q (some v)) E s) : wpAny M A (callSpecialIfBound? (.ref x) "__ne__" args) Q E s := by
  simp only [callSpecialIfBound?, bindSpecialIfBound?]
  refine wpAny_holding (wpAny_bind (wpAny_bind (wpAny_bind (I.type.here ((looks_findIn X hs).here ?_)))))
  simp only [ne_bind]
  refine wpAny_bind (wpAny_askSetting (wpAny_ite ?_))
  have fin : wpAny M A (call (.builtin "object.__ne__") ([.ref x] ++ args) >>= fun v => pure (some v)) Q E s := wpAny_bind (wpAny_mono h (fun v s' h' => wpAny_pure h') fun _ _ h' => h')
  split
  · exact wpAny_bind (wpAny_pure (wpAny_pure fin))
  · exact wpAny_tryCatch (wpAny_bind (wpAny_pure (wpAny_pure fin)))
theorem objNe_K (hu : A.units < cLine) (X : K.In s.heap) (I : InstAt s.heap x ox C od) (hs : findIn K (.ref C) "__eq__" = some (some (.ref f))) (hf : isFn K (.ref f) = true) {Q : Fin → Shared → Prop}
    (h : wpAny (model prog w) A (call (.ref f) [.ref x, b]) (fun v s' => ∃ r, v = .bool r ∧ Q (.done (.ret (.bool (!r)))) s') E s) : wpAny (model prog w) A (Builtin.«object.__ne__» ⟨[.ref x, b], []⟩) Q E s := by
  obtain ⟨hp, g, d, t, os⟩ := s
  unfold Builtin.«object.__ne__»
  repeat (first
    | with_reducible refine wpAny_cRoomFor hu ?_
    | (refine wpAny_bind (m := callSpecialIfBound? (.ref x) (Str.ofString "__eq__") [b])
        (ifBound_K X I hs hf (wpAny_mono h (fun r s' hr => by
          obtain ⟨b, rfl, hq⟩ := hr
          repeat (first | exact hq | exact wpAny_pure hq | exact wpAny_truthy_bool hq | (refine wpAny_bind (m := truthy (.bool _)) (wpAny_truthy_bool ?_)) | wp_step)) fun _ _ e => e)))
    | wp_step)
theorem ne_K {Q : Value → Shared → Prop} (hu : A.units + 1 < cLine) (X : K.In s.heap) (I : InstAt s.heap x ox C od) (hb : Looks (model prog w) s.heap (typeOf b) tb) (hn : notFirst K C tb = true)
    (hs : findIn K (.ref C) "__ne__" = some (some (.builtin "object.__ne__"))) (he : findIn K (.ref C) "__eq__" = some (some (.ref f))) (hf : isFn K (.ref f) = true) (ho : mroIn K C (.type "object") = some true)
    (h : wpAny (model prog w) A.in1 (call (.ref f) [.ref x, b]) (fun v s' => ∃ r, v = .bool r ∧ Q (.bool (!r)) s') E s) : wpAny (model prog w) A (richCompare .NotEq (.ref x) b) Q E s := by
  have one : wpAny (model prog w) A (tryCompare (.ref x) "__ne__" b) (fun r s' => ∃ v, r = some v ∧ Q v s') E s := by
    unfold tryCompare
    refine wpAny_bind (ifBound_ne X I hs (wpAny_call (codeAny_call_builtin ne_plain F.cmpEntry_ne (check_slot F.cmpKind_ne F.cmpSplit_ne (I.type.andThen (looks_mroIn X ho)) (F.cmpArgs_ne _ _) (objNe_K (A := A.in1) hu X I he hf (wpAny_mono h (fun v s' hv => ?_) fun _ _ e => e))))))
    obtain ⟨r, rfl, hq⟩ := hv
    first | exact ⟨r, rfl, wpAny_pure ⟨_, rfl, hq⟩⟩ | exact ⟨r, rfl, wpAny_pure (wpAny_pure ⟨_, rfl, hq⟩)⟩
  unfold richCompare
  simp only [oneThing_ref]
  refine wpAny_holding (wpAny_bind (wpAny_cRoomFor (Nat.lt_of_succ_lt hu) ?_))
  refine wpAny_bind (I.type.here (wpAny_bind (hb.here ?_)))
  rw [cmpInfo_NotEq]
  dsimp only
  split
  · rename_i q
    have e : subIn K tb (.ref C) = some false := by
      rcases Bool.or_eq_true_iff.mp hn with e | e
      · rw [beq_iff_eq.mp e] at q; simp at q
      · exact beq_iff_eq.mp e
    refine wpAny_bind ((looks_subIn X e).here ?_)
    simp only [Bool.false_eq_true, if_false]
    refine wpAny_bind (wpAny_mono one (fun r s' z => ?_) fun _ _ e => e)
    obtain ⟨v, rfl, hq⟩ := z
    exact wpAny_pure hq
  · refine wpAny_bind (wpAny_pure ?_)
    simp only [Bool.false_eq_true, if_false]
    refine wpAny_bind (wpAny_mono one (fun r s' z => ?_) fun _ _ e => e)
    obtain ⟨v, rfl, hq⟩ := z
    exact wpAny_pure hq
end
end EVX

namespace EVX
open PySem PySem.Spec PyProof.Rows L2
/-! ### set(x) of a tuple of ints and texts, any of them more than once -/
def memK (k : Key) (r : List Key) : Bool := r.any fun j => decide (j = k)
theorem memK_iff {k : Key} {r : List Key} : memK k r = true ↔ k ∈ r := by
  unfold memK
  rw [List.any_eq_true]
  exact ⟨fun ⟨j, hj, e⟩ => of_decide_eq_true e ▸ hj, fun h => ⟨k, h, decide_eq_true rfl⟩⟩
/-- how many unlike ones -/
def dn : List Key → Nat
  | [] => 0
  | k :: r => if memK k r then dn r else dn r + 1
theorem dn_le : ∀ r : List Key, dn r ≤ r.length
  | [] => Nat.le_refl _
  | k :: r => by
    have := dn_le r
    unfold dn
    split <;> simp <;> omega
theorem dn_full : ∀ r : List Key, dn r = r.length ↔ r.Nodup
  | [] => by simp [dn]
  | k :: r => by
    have h1 := dn_le r
    have h2 := dn_full r
    rw [List.nodup_cons, ← h2, ← memK_iff]
    show (if memK k r then dn r else dn r + 1) = (k :: r).length ↔ _
    split
    · rename_i h
      simp only [List.length_cons]
      exact ⟨fun z => absurd z (by omega), fun z => absurd h z.1⟩
    · rename_i h
      simp only [List.length_cons, Nat.add_right_cancel_iff]
      exact ⟨fun z => ⟨h, z⟩, fun z => z.2⟩
/-- the keys met so far, and their number -/
def SoFar (P : Program) (w : World) (h : Heap) (a : Addr) (r : List Key) : Prop := h.SetOf (mixKind P w) a (fun k => memK k r) (dn r)
theorem SoFar.keep {P : Program} {w : World} {h h' : Heap} {a : Addr} {r : List Key} (R : SoFar P w h a r) (k : ∀ o, h.get? a = some o → h'.get? a = some o) : SoFar P w h' a r := setOf_at R k
section
variable {prog : Program} {w : World} {A : Around} {R : Result → Shared → Prop} {I : Addr} {fp wr : List Addr} {G : Array GenState → Array GenState → Prop} {n : Nat} {P : Nat → Value → Prop} {St : Nat → Shared → Prop}
/-- one key goes in -/
theorem put_key {B : Around} {E : Value → Shared → Prop} {s : Shared} {a : Addr} {r : List Key} {k : Key} {v : Value} {Q : Bool → Shared → Prop} (rv : RelV (kV k) v) (h0 : SoFar prog w s.heap a r) (hb : r.length + 1 < scanBound)
    (h : ∀ h' b, Heap.SameBut a s.heap h' → SoFar prog w h' a (k :: r) → Q b { s with heap := h', toks := s.toks + 1 }) : wpAny (model prog w) B (holding [v] (setAdd a v)) Q E s := by
  have room : dn r + 1 < scanBound := Nat.lt_of_le_of_lt (Nat.succ_le_succ (dn_le r)) hb
  refine wpAny_holding ?_
  unfold setAdd
  refine wpAny_holding (wpAny_bind ((mixKind prog w).pyHash (kV_is rv) (wpAny_setAddHashed_of (knd := mixKind prog w) (S := fun k => memK k r) (n := dn r) (s := { s with toks := s.toks + 1 }) (kV_is rv) (key_scan rv) h0 room fun h' sb new => ?_)))
  have c1 : ∀ j, (memK j r || decide (j = k)) = memK j (k :: r) := fun j => by
    unfold memK
    rw [List.any_cons, Bool.or_comm]
    congr 1
    exact decide_eq_decide.mpr ⟨Eq.symm, Eq.symm⟩
  have c2 : (if memK k r then dn r else dn r + 1) = dn (k :: r) := by
    rfl
  have c3 : (fun j => memK j r || decide (j = k)) = fun j => memK j (k :: r) := funext c1
  have c4 : SoFar prog w h' a (k :: r) := by
    unfold SoFar
    rw [← c3, ← c2]
    exact new
  exact h h' _ sb c4
theorem take_rev {xs : List Key} {i : Nat} {k : Key} (h : xs[i]? = some k) : (xs.take (i + 1)).reverse = k :: (xs.take i).reverse := by
  rw [List.take_add_one, h]
  simp
theorem fill (W : WalksS prog w A.in1 I fp wr G n P St) (a : Addr) (ha : a ∉ fp) (xs : List Key) (hx : xs.length = n) (hb : n + 1 < scanBound) (val : ∀ i v, P i v → ∃ k, xs[i]? = some k ∧ RelV (kV k) v) :
    ∀ (m i : Nat) (s : Shared), n = m + i → St i s → SoFar prog w s.heap a (xs.take i).reverse →
      (∀ s', Moved (a :: wr) G s s' → SoFar prog w s'.heap a xs.reverse → R (.ok (.ret .none)) s') → codeAny (model prog w) A (.builtin "set.update.loop" ⟨[.ref a, .ref I], []⟩) R s := by
  have haw : a ∉ wr := fun z => ha (W.sub _ z)
  have up : ∀ b ∈ wr, b ∈ a :: wr := fun b hb => List.mem_cons_of_mem _ hb
  intro m
  induction m with
  | zero =>
    intro i s hi st h0 hR
    refine codeAny_builtin PyProof.Rows.F.entry_set_update_loop (by
      rw [Around.under_plainId PyProof.Rows.F.plain_set_update_loop _]
      show wpAny _ A.in1 (pyNext (.ref I) >>= _) _ _ s
      obtain rfl : n = i := by omega
      refine wpAny_bind (W.done s _ _ st fun s' hm => ?_)
      rw [List.take_of_length_le (by omega)] at h0
      exact wpAny_pure (hR s' (hm.mono up) (h0.keep fun o e => hm.heap a o haw e)))
  | succ m ih =>
    intro i s hi st h0 hR
    refine codeAny_builtin PyProof.Rows.F.entry_set_update_loop (by
      rw [Around.under_plainId PyProof.Rows.F.plain_set_update_loop _]
      show wpAny _ A.in1 (pyNext (.ref I) >>= _) _ _ s
      refine wpAny_bind (W.item i s _ _ (by omega) st fun v s' hP st' hm => ?_)
      obtain ⟨k, hk, rv⟩ := val i v hP
      refine wpAny_bind (put_key rv (h0.keep fun o e => hm.heap a o haw e) (by simp; omega) fun h' b sb new => ?_)
      refine wpAny_pure ⟨plainId_quiet PyProof.Rows.F.plain_set_update_loop _, ih (i + 1) _ (by omega) (W.frame _ s' _ _ st' (Nat.le_succ _) fun c hc o e => ?_) (by rw [take_rev hk]; exact new) fun s2 m2 new2 => ?_⟩
      · rw [sb.2 c fun z => ha (z ▸ hc)]
        exact e
      · refine hR s2 (Moved.trans W.gtrans ((hm.mono up).then_heap (Nat.le_succ _) fun c o hc e => ?_) m2) new2
        rw [sb.2 c fun z => hc (z ▸ List.mem_cons_self)]
        exact e)
end
section
variable {prog : Program} {w : World} {A : Around} {E : Value → Shared → Prop} {s : Shared}
/-- a set just made -/
abbrev newS (led : Bool) : Obj := { cls := .type "set", dict := none, data := .set #[] 0 (.fresh 0 0 led) }
theorem new_sofar {h : Heap} {a : Addr} {led : Bool} (e : h.get? a = some (newS led)) : SoFar prog w h a [] :=
  ⟨_, #[], 0, _, e, ⟨rfl, rfl, rfl⟩, rfl, (fun e he => by simp at he), (fun k => by simp [memK]), (by decide), (by rfl), rfl⟩
/-- set.__init__(a, l), l a tuple -/
theorem init_tup {a l : Addr} {items : Array Value} {xs : List Key} {led : Bool} {R : Result → Shared → Prop} (hh : A.handled = none) (ea : s.heap.get? a = some (newS led)) (hne : a ≠ l) (hl : s.heap.IsTuple l items)
    (hv : ∀ (i : Nat) v, items[i]? = some v → ∃ k, xs[i]? = some k ∧ RelV (kV k) v) (hx : xs.length = items.size) (hb : items.size + 1 < scanBound)
    (h : ∀ h' tk, SoFar prog w h' a xs.reverse → (∀ b o, b ≠ a → s.heap.get? b = some o → h'.get? b = some o) → R (.ok (.ret .none)) { s with heap := h', toks := tk }) :
    codeAny (model prog w) A (.call (.builtin "set.__init__") ⟨[.ref a, .ref l], []⟩) R s := by
  have hT : Shared.TypeIs s (.ref a) "set" := ⟨_, ea, rfl⟩
  refine codeAny_call_builtin PySem.F.called_set.init.plain PySem.F.entry_set_init (check_set_init_1 hT ?_)
  have hl1 := hl
  obtain ⟨⟨oc, od, odt, osl⟩, g1, g2, nl, g3⟩ := hl
  simp only at g2 g3
  subst g2 g3
  have z1 := PySem.F.sub_tuple_set
  have z2 := PySem.F.sub_tuple_frozenset
  have z3 : (Value.type "tuple" == Value.type "dict") = false := by decide
  have hlS : l < s.heap.objs.size := Heap.lt_size g1
  have haS : a < s.heap.objs.size := Heap.lt_size ea
  unfold Builtin.«set.__init__» noKeywords Builtin.Frozenset.updateFrom
  generalize hPI : pyIter = PI
  wp_walk
  subst hPI
  refine wpAny_pyIter_tuple hl1 (wpAny_bind (wpAny_runValue ?_))
  have hf : a ∉ [s.heap.objs.size, l] := by
    simp only [List.mem_cons, List.not_mem_nil, or_false, not_or]
    exact ⟨Nat.ne_of_lt haS, hne⟩
  have W := (Walks.tuple (prog := prog) (w := w) (A := A.in1.in1) (by simp [hh]) s.heap.objs.size l (Nat.ne_of_lt hlS) items).toS
  refine fill W a hf xs hx hb hv items.size 0 _ (by omega) ?st ?s0 ?fin
  case st => exact ⟨⟨_, Heap.get?_push_size _ rfl, rfl, rfl⟩, hl1.push _⟩
  case s0 => exact new_sofar (Heap.get?_push_of_some _ ea)
  intro s' hm new
  obtain ⟨h', g', d', tk', os'⟩ := s'
  obtain rfl : g' = s.gens := hm.gens
  obtain rfl : d' = s.drawn := hm.drawn
  obtain rfl : os' = s.os := hm.os
  refine wpAny_pure (wpAny_pure (h h' tk' new fun b o hb e => hm.heap b o ?_ (Heap.get?_push_of_some _ e)))
  simp only [List.mem_cons, List.not_mem_nil, or_false, not_or]
  exact ⟨hb, Nat.ne_of_lt (Heap.lt_size e)⟩
/-- set(l), l a tuple of ints and texts -/
theorem set_tup {l : Addr} {items : Array Value} {xs : List Key} {Q : Value → Shared → Prop} (hh : A.handled = none) (hl : s.heap.IsTuple l items) (hv : ∀ (i : Nat) v, items[i]? = some v → ∃ k, xs[i]? = some k ∧ RelV (kV k) v) (hx : xs.length = items.size)
    (hb : items.size + 1 < scanBound) (h : ∀ h' tk, SoFar prog w h' s.heap.objs.size xs.reverse → (∀ b o, s.heap.get? b = some o → h'.get? b = some o) → Q (.ref s.heap.objs.size) { s with heap := h', toks := tk }) :
    wpAny (model prog w) A (call (.type "set") [.ref l]) Q E s := by
  obtain ⟨c, tl, y1⟩ := PySem.F.called_set.mro
  have y2 := PySem.F.called_set.made
  have y3 := PySem.F.called_set.sub
  have y4 := PySem.F.called_set.notType
  have y5 := PySem.F.called_set.canCreate
  have y6 := PySem.F.typeCall_set_1 (.ref l)
  refine wpAny_call (codeAny_of_tree (wpAny_pure (show _ ∧ _ from ⟨Code.quiet_builtin _ (by decide +kernel), codeAny_builtin PySem.F.entry_type_call (by
    rw [Around.under_plain (weight_type_call_type "set" [.ref l] []) rfl]
    repeat (any_goals (first | assumption | wp_step))
    refine codeAny_mono (code_set_new_1 (.ref l) (E := E) (Q₁ := fun v s1 => ∃ led, v = .ref s.heap.objs.size ∧ s1 = { s with heap := s.heap.push (newS led) }) fun led => ⟨led, rfl, rfl⟩) fun r s1 hr => ?_
    cases r with
    | error e => exact hr
    | ok fl =>
      cases fl with
      | ret obj =>
        obtain ⟨led, rfl, rfl⟩ := hr
        have x1 : (s.heap.push (newS led)).get? s.heap.objs.size = some (newS led) := Heap.get?_push_size _ rfl
        have x2 : Shared.TypeIs { s with heap := s.heap.push (newS led) } (.ref s.heap.objs.size) "set" := ⟨_, x1, rfl⟩
        have x3 := PySem.F.called_set.init.lookup
        have x4 := PySem.F.called_set.init.bind (.ref s.heap.objs.size)
        have lo : l < s.heap.objs.size := by
          obtain ⟨o, e, _⟩ := hl
          exact Heap.lt_size e
        repeat (any_goals (first | assumption | wp_step))
        refine codeAny_mono (init_tup (R := wants (fun r s2 => r = .none ∧ ∃ h' tk, s2 = { s with heap := h', toks := tk } ∧ SoFar prog w h' s.heap.objs.size xs.reverse ∧ ∀ b o, s.heap.get? b = some o → h'.get? b = some o) E) (by simpa using hh) x1 (Nat.ne_of_gt lo) (hl.push _) hv hx hb fun h' tk new k => ?_) fun r2 s2 hr2 => ?_
        · exact ⟨rfl, h', tk, rfl, new, fun b o e => k b o (Nat.ne_of_lt (Heap.lt_size e)) (Heap.get?_push_of_some _ e)⟩
        · cases r2 with
          | error e => exact hr2
          | ok fl2 =>
            cases fl2 with
            | ret r =>
              obtain ⟨rfl, h', tk, rfl, new, k⟩ := hr2
              repeat (any_goals (first | assumption | wp_step))
              exact h _ _ new k
            | _ => exact hr2.elim
      | _ => exact hr.elim)⟩)))
end
end EVX

namespace EV
open PySem PySem.Spec PyProof.Rows L2

/-- plain data -/
inductive D where
  | non | bl (b : Bool) | int (i : Int) | str (x : Str)
  | tup (xs : List D) | lst (xs : List D)
  | dic (ks vs : List D)
  | ins (c : Str) (ns : List Str) (vs : List D)
  | exc (c : Str) (v : D)
  | cel (i : Nat)
  | scr (ns : List Int)

/-- what changes: a list, an own object -/
inductive Cel where
  | ls (ds : List D)
  | ob (c : Str) (ns : List Str) (vs : List D)
  | tb (n q : Str)
abbrev Cells := List Cel
/-- a text whose signs are signs -/
def cpOk (x : Str) : Bool := x.cps.all (· < 0x110000)

mutual
/-- v stands for d over the heap H, the cells' places m -/
def Rep (K : PySem.W.Frag) (H : Hp) (m : List Addr) : D → V → Prop
  | .non, v => v = .non
  | .bl b, v => v = .bl b
  | .int i, v => v = .int i
  | .str x, v => v = .str x ∧ x.length ≤ sizeLine ∧ cpOk x = true
  | .tup ds, v => ∃ p xs, v = .ref p ∧ SqT K H p xs ∧ xs.length ≤ sizeLine ∧ RepL K H m ds xs
  | .lst ds, v => ∃ p xs, v = .ref p ∧ H p = some (.lst xs) ∧ xs.length ≤ sizeLine ∧ RepL K H m ds xs
  | .dic ks vs, v => ∃ (p : Addr) (kvs : List (Key × V)), v = .ref p ∧ H p = some (.dK kvs) ∧ kvs.length ≤ sizeLine ∧ RepL K H m ks (kvs.map fun q => kV q.1) ∧ RepL K H m vs (kvs.map (·.2))
  | .ins c ns ds, v => ∃ (p dx : Addr) (fs : List (Str × V)), v = .ref p ∧ H p = some (.ins (He.ga K c) dx fs) ∧ fs.map (·.1) = ns ∧ RepL K H m ds (fs.map (·.2))
  | .exc c d, v => ∃ (p dx : Addr) (x : V), v = .ref p ∧ H p = some (EVX.exq p (He.ga K c) (some dx)) ∧ H dx = some (.xd [(("value" : Str), x)]) ∧ Rep K H m d x
  | .cel i, v => ∃ a, m[i]? = some a ∧ v = .ref a
  | .scr ns, v => ∃ p, v = .ref p ∧ SqL K H p (ns.map V.int) ∧ ns.length ≤ sizeLine
def RepL (K : PySem.W.Frag) (H : Hp) (m : List Addr) : List D → List V → Prop
  | [], vs => vs = []
  | d :: ds, vs => ∃ x xs, vs = x :: xs ∧ Rep K H m d x ∧ RepL K H m ds xs
end

def Sub (H H' : Hp) : Prop := ∀ a o, H a = some o → H' a = some o
theorem Sub.refl {H : Hp} : Sub H H := fun _ _ e => e
theorem Sub.trans {H H1 H2 : Hp} (a : Sub H H1) (b : Sub H1 H2) : Sub H H2 := fun _ _ e => b _ _ (a _ _ e)

theorem SqT.sub {K : PySem.W.Frag} {H H' : Hp} {p : Addr} {xs : List V} (s : Sub H H') (h : SqT K H p xs) : SqT K H' p xs := by
  rcases h with (h | ⟨o, h⟩) | h
  · exact .inl (.inl (s _ _ h))
  · exact .inl (.inr ⟨o, s _ _ h⟩)
  · exact .inr h
theorem SqL.sub {K : PySem.W.Frag} {H H' : Hp} {p : Addr} {xs : List V} (s : Sub H H') (h : SqL K H p xs) : SqL K H' p xs := by
  rcases h with (h | ⟨o, h⟩) | h
  · exact .inl (.inl (s _ _ h))
  · exact .inl (.inr ⟨o, s _ _ h⟩)
  · exact .inr h


def Ext (m m' : List Addr) : Prop := ∀ (i : Nat) a, m[i]? = some a → m'[i]? = some a
theorem Ext.refl {m : List Addr} : Ext m m := fun _ _ e => e
theorem Ext.trans {m m1 m2 : List Addr} (a : Ext m m1) (b : Ext m1 m2) : Ext m m2 := fun _ _ e => b _ _ (a _ _ e)

mutual
theorem Rep.up {K : PySem.W.Frag} {H H' : Hp} {m m' : List Addr} (s : Sub H H') (hm : Ext m m') : ∀ (d : D) (v : V), Rep K H m d v → Rep K H' m' d v
  | .non, v, h => by simpa only [Rep] using h
  | .bl b, v, h => by simpa only [Rep] using h
  | .int i, v, h => by simpa only [Rep] using h
  | .str x, v, h => by simpa only [Rep] using h
  | .tup ds, v, h => by
    simp only [Rep] at h ⊢
    obtain ⟨p, xs, e, q, z, r⟩ := h
    exact ⟨p, xs, e, SqT.sub s q, z, RepL.up s hm ds xs r⟩
  | .lst ds, v, h => by
    simp only [Rep] at h ⊢
    obtain ⟨p, xs, e, q, z, r⟩ := h
    exact ⟨p, xs, e, s _ _ q, z, RepL.up s hm ds xs r⟩
  | .dic ks vs, v, h => by
    simp only [Rep] at h ⊢
    obtain ⟨p, kvs, e, q, z, r1, r2⟩ := h
    exact ⟨p, kvs, e, s _ _ q, z, RepL.up s hm ks _ r1, RepL.up s hm vs _ r2⟩
  | .ins cl ns ds, v, h => by
    simp only [Rep] at h ⊢
    obtain ⟨p, dx, fs, e, q, z, r⟩ := h
    exact ⟨p, dx, fs, e, s _ _ q, z, RepL.up s hm ds _ r⟩
  | .exc cl d, v, h => by
    simp only [Rep] at h ⊢
    obtain ⟨p, dx, x, e, q, z, r⟩ := h
    exact ⟨p, dx, x, e, s _ _ q, s _ _ z, Rep.up s hm d x r⟩
  | .cel i, v, h => by
    simp only [Rep] at h ⊢
    obtain ⟨a, e, z⟩ := h
    exact ⟨a, hm _ _ e, z⟩
  | .scr ns, v, h => by
    simp only [Rep] at h ⊢
    obtain ⟨p, e, q, z⟩ := h
    exact ⟨p, e, SqL.sub s q, z⟩
theorem RepL.up {K : PySem.W.Frag} {H H' : Hp} {m m' : List Addr} (s : Sub H H') (hm : Ext m m') : ∀ (ds : List D) (vs : List V), RepL K H m ds vs → RepL K H' m' ds vs
  | [], vs, h => by simpa only [RepL] using h
  | d :: ds, vs, h => by
    simp only [RepL] at h ⊢
    obtain ⟨x, xs, e, r, q⟩ := h
    exact ⟨x, xs, e, Rep.up s hm d x r, RepL.up s hm ds xs q⟩
end
section
variable {K : PySem.W.Frag} {H H' : Hp} {m m' : List Addr}
theorem RepL.length : ∀ {ds : List D} {vs : List V}, RepL K H m ds vs → ds.length = vs.length
  | [], vs, h => by simp only [RepL] at h; subst h; rfl
  | d :: ds, vs, h => by
    simp only [RepL] at h
    obtain ⟨x, xs, rfl, r, q⟩ := h
    simp [RepL.length q]
theorem RepL.get : ∀ {ds : List D} {vs : List V} {i : Nat} {d : D}, RepL K H m ds vs → ds[i]? = some d → ∃ x, vs[i]? = some x ∧ Rep K H m d x
  | [], vs, i, d, h, e => by simp at e
  | d0 :: ds, vs, 0, d, h, e => by
    simp only [RepL] at h
    obtain ⟨x, xs, rfl, r, q⟩ := h
    simp at e; subst e
    exact ⟨x, rfl, r⟩
  | d0 :: ds, vs, i + 1, d, h, e => by
    simp only [RepL] at h
    obtain ⟨x, xs, rfl, r, q⟩ := h
    simp at e
    obtain ⟨y, h1, h2⟩ := RepL.get q e
    exact ⟨y, by simpa using h1, h2⟩
theorem RepL.getV : ∀ {ds : List D} {vs : List V} {i : Nat} {x : V}, RepL K H m ds vs → vs[i]? = some x → ∃ d, ds[i]? = some d ∧ Rep K H m d x := fun {ds vs i x} h e => by
  have hl := h.length
  obtain ⟨lt, _⟩ := List.getElem?_eq_some_iff.mp e
  have hd : ds[i]? = some (ds[i]'(by omega)) := by simp
  obtain ⟨y, e2, r⟩ := h.get hd
  rw [e] at e2; cases e2
  exact ⟨_, hd, r⟩
theorem RepL.nil : RepL K H m [] [] := by simp only [RepL]
theorem RepL.cons {d : D} {ds : List D} {x : V} {xs : List V} (r : Rep K H m d x) (q : RepL K H m ds xs) : RepL K H m (d :: ds) (x :: xs) := by
  simp only [RepL]; exact ⟨x, xs, rfl, r, q⟩
theorem RepL.append : ∀ {ds es : List D} {vs us : List V}, RepL K H m ds vs → RepL K H m es us → RepL K H m (ds ++ es) (vs ++ us)
  | [], es, vs, us, h, k => by simp only [RepL] at h; subst h; exact k
  | d :: ds, es, vs, us, h, k => by
    simp only [RepL] at h
    obtain ⟨x, xs, rfl, r, q⟩ := h
    exact RepL.cons r (RepL.append q k)
theorem RepL.one {d : D} {x : V} (r : Rep K H m d x) : RepL K H m [d] [x] := .cons r .nil
theorem RepL.take : ∀ {ds : List D} {vs : List V} (n : Nat), RepL K H m ds vs → RepL K H m (ds.take n) (vs.take n)
  | _, _, 0, _ => by simp only [List.take_zero]; exact .nil
  | [], vs, n + 1, h => by simp only [RepL] at h; subst h; simp only [List.take_nil]; exact .nil
  | d :: ds, vs, n + 1, h => by
    simp only [RepL] at h
    obtain ⟨x, xs, rfl, r, q⟩ := h
    exact RepL.cons r (RepL.take n q)
theorem RepL.drop : ∀ {ds : List D} {vs : List V} (n : Nat), RepL K H m ds vs → RepL K H m (ds.drop n) (vs.drop n)
  | _, _, 0, h => h
  | [], vs, n + 1, h => by simp only [RepL] at h; subst h; simp only [List.drop_nil]; exact .nil
  | d :: ds, vs, n + 1, h => by
    simp only [RepL] at h
    obtain ⟨x, xs, rfl, r, q⟩ := h
    exact RepL.drop n q
theorem RepL.set {d : D} {x : V} (r : Rep K H m d x) : ∀ {ds : List D} {vs : List V} (i : Nat), RepL K H m ds vs → RepL K H m (ds.set i d) (vs.set i x)
  | [], vs, i, h => by simp only [RepL] at h; subst h; exact .nil
  | d0 :: ds, vs, 0, h => by
    simp only [RepL] at h
    obtain ⟨x0, xs, rfl, r0, q⟩ := h
    exact .cons r q
  | d0 :: ds, vs, i + 1, h => by
    simp only [RepL] at h
    obtain ⟨x0, xs, rfl, r0, q⟩ := h
    exact .cons r0 (RepL.set r i q)
theorem RepL.eraseIdx : ∀ {ds : List D} {vs : List V} (i : Nat), RepL K H m ds vs → RepL K H m (ds.eraseIdx i) (vs.eraseIdx i)
  | [], vs, i, h => by simp only [RepL] at h; subst h; exact .nil
  | d0 :: ds, vs, 0, h => by
    simp only [RepL] at h
    obtain ⟨x0, xs, rfl, r0, q⟩ := h
    exact q
  | d0 :: ds, vs, i + 1, h => by
    simp only [RepL] at h
    obtain ⟨x0, xs, rfl, r0, q⟩ := h
    exact .cons r0 (RepL.eraseIdx i q)
end

/- no list or dict within -/
mutual
def imm : D → Bool
  | .tup ds => immL ds
  | .lst _ => false
  | .dic _ _ => false
  | .scr _ => false
  | .ins _ _ ds => immL ds
  | .exc _ d => imm d
  | _ => true
def immL : List D → Bool
  | [] => true
  | d :: ds => imm d && immL ds
end
def immC : Cel → Bool
  | .ls ds => immL ds
  | .ob _ _ vs => immL vs
  | .tb _ _ => true
def CelIs (K : PySem.W.Frag) (F H : Hp) (m : List Addr) (a : Addr) : Cel → Prop
  | .ls ds => ∃ xs, H a = some (.lst xs) ∧ xs.length ≤ sizeLine ∧ RepL K F m ds xs
  | .ob c ns vs => ∃ (dx : Addr) (fs : List (Str × V)), H a = some (.ins (He.ga K c) dx fs) ∧ fs.map (·.1) = ns ∧ RepL K F m vs (fs.map (·.2))
  | .tb n q => a = (He.cT K (n, none)).2 ∧ ∃ ps : Array Value, H a = some (.tbl ps) ∧ TriplesOk ps.toList ∧ ∀ (pos : Pos) (cv : Value), codeAmong pos ps.toList = some cv → ∃ c, cv = .ref c ∧ F c = some (LamX.CodeO c q)
theorem CelIs.there {K : PySem.W.Frag} {F H : Hp} {m : List Addr} {a : Addr} {c : Cel} (h : CelIs K F H m a c) : ∃ o, H a = some o := by
  cases c with
  | ls ds => obtain ⟨xs, e, _⟩ := h; exact ⟨_, e⟩
  | ob c ns vs => obtain ⟨dx, fs, e, _⟩ := h; exact ⟨_, e⟩
  | tb n q => obtain ⟨_, ps, e, _⟩ := h; exact ⟨_, e⟩
theorem CelIs.keep {K : PySem.W.Frag} {F H F' H' : Hp} {m m' : List Addr} {a : Addr} {c : Cel} (h : CelIs K F H m a c) (s : Sub F F') (x : Ext m m') (e : H' a = H a) : CelIs K F' H' m' a c := by
  cases c with
  | ls ds => obtain ⟨xs, e1, e2, e3⟩ := h; exact ⟨xs, e.trans e1, e2, e3.up s x⟩
  | ob c ns vs => obtain ⟨dx, fs, e1, e2, e3⟩ := h; exact ⟨dx, fs, e.trans e1, e2, e3.up s x⟩
  | tb n q =>
    obtain ⟨h0, ps, e1, e2, e3⟩ := h
    refine ⟨h0, ps, e.trans e1, e2, fun pos cv hc => ?_⟩
    obtain ⟨c, e4, e5⟩ := e3 pos cv hc
    exact ⟨c, e4, s c _ e5⟩
/-- a state: F its frozen part, H the whole heap, m the places of the cells S -/
structure Wd (K : PySem.W.Frag) (F H : Hp) (m : List Addr) (S : Cells) : Prop where
  sub : Sub F H
  len : m.length = S.length
  nd : m.Nodup
  cel : ∀ (i : Nat) a ds, m[i]? = some a → S[i]? = some ds → F a = none ∧ CelIs K F H m a ds
  im : ∀ (i : Nat) ds, S[i]? = some ds → immC ds = true

/-- from one state to a later one: what is frozen stays, what is neither frozen nor a cell stays as it is -/
structure Gr (K : PySem.W.Frag) (F H : Hp) (m : List Addr) (F' H' : Hp) (m' : List Addr) (S' : Cells) : Prop where
  w : Wd K F' H' m' S'
  up : Sub F F'
  ext : Ext m m'
  frm : ∀ a o, H a = some o → F a = none → a ∉ m → H' a = some o ∧ F' a = none ∧ a ∉ m'

section
variable {K : PySem.W.Frag} {F H F' H' F1 H1 F2 H2 : Hp} {m m' m1 m2 : List Addr} {S S' S1 S2 : Cells}
theorem Gr.refl (w : Wd K F H m S) : Gr K F H m F H m S := ⟨w, Sub.refl, Ext.refl, fun _ _ a b c => ⟨a, b, c⟩⟩
theorem Gr.trans (a : Gr K F H m F1 H1 m1 S1) (b : Gr K F1 H1 m1 F2 H2 m2 S2) : Gr K F H m F2 H2 m2 S2 :=
  ⟨b.w, a.up.trans b.up, a.ext.trans b.ext, fun x o h1 h2 h3 => by
    obtain ⟨e1, e2, e3⟩ := a.frm x o h1 h2 h3
    exact b.frm x o e1 e2 e3⟩
theorem Rep.gr {d : D} {v : V} (g : Gr K F H m F' H' m' S') (r : Rep K F m d v) : Rep K F' m' d v := r.up g.up g.ext
theorem RepL.gr {ds : List D} {vs : List V} (g : Gr K F H m F' H' m' S') (r : RepL K F m ds vs) : RepL K F' m' ds vs := r.up g.up g.ext

/-- a value and whether it is a new list that nobody else holds; H0: the heap ahead -/
def RepB (K : PySem.W.Frag) (H0 F H : Hp) (m : List Addr) (b : D × Bool) (v : V) : Prop :=
  match b.2 with
  | false => Rep K F m b.1 v
  | true => ∃ p xs ds, b.1 = .lst ds ∧ v = .ref p ∧ H0 p = none ∧ H p = some (.lst xs) ∧ F p = none ∧ p ∉ m ∧ xs.length ≤ sizeLine ∧ RepL K F m ds xs

/-- a new object is laid -/
theorem Wd.lay {p : Addr} {o : HO} (w : Wd K F H m S) (hp : H p = none) : Wd K F (upd H p o) m S :=
  ⟨fun a u e => by rw [upd_ne (ne_of_none (w.sub a u e) hp)]; exact w.sub a u e, w.len, w.nd, fun i a ds h1 h2 => by
    obtain ⟨h3, h4⟩ := w.cel i a ds h1 h2
    obtain ⟨o', ho⟩ := h4.there
    exact ⟨h3, h4.keep Sub.refl Ext.refl (upd_ne (ne_of_none ho hp))⟩, w.im⟩
theorem Wd.cellThere {a : Addr} (w : Wd K F H m S) (ha : a ∈ m) : ∃ o, H a = some o := by
  obtain ⟨i, hi⟩ := List.mem_iff_getElem?.mp ha
  have hlt : i < S.length := by
    rw [← w.len]; exact (List.getElem?_eq_some_iff.mp hi).1
  exact (w.cel i a _ hi (List.getElem?_eq_getElem hlt)).2.there
theorem Wd.newNot {p : Addr} (w : Wd K F H m S) (hp : H p = none) : p ∉ m := fun hm => by
  obtain ⟨xs, h⟩ := w.cellThere hm
  rw [hp] at h; cases h
theorem Wd.newF {p : Addr} (w : Wd K F H m S) (hp : H p = none) : F p = none := by
  cases e : F p with
  | none => rfl
  | some o => rw [w.sub p o e] at hp; cases hp
theorem Gr.lay {p : Addr} {o : HO} (w : Wd K F H m S) (hp : H p = none) : Gr K F H m F (upd H p o) m S :=
  ⟨w.lay hp, Sub.refl, Ext.refl, fun a u h1 h2 h3 => ⟨by rw [upd_ne (ne_of_none h1 hp)]; exact h1, h2, h3⟩⟩
theorem Wd.frz {p : Addr} {o : HO} (w : Wd K F H m S) (hp : H p = some o) (hm : p ∉ m) (hF : F p = none) : Wd K (upd F p o) H m S :=
  ⟨fun a u e => by
    by_cases h : a = p
    · subst h; rw [upd_same] at e; cases e; exact hp
    · rw [upd_ne h] at e; exact w.sub a u e, w.len, w.nd, fun i a ds h1 h2 => by
    obtain ⟨h3, h4⟩ := w.cel i a ds h1 h2
    have hne : a ≠ p := fun e => hm (e ▸ List.mem_of_getElem? h1)
    exact ⟨by rw [upd_ne hne]; exact h3, h4.keep (fun b u e => by rw [upd_ne (ne_of_none e hF)]; exact e) Ext.refl rfl⟩, w.im⟩
theorem sub_upd {p : Addr} {o : HO} (hF : F p = none) : Sub F (upd F p o) := fun b u e => by rw [upd_ne (ne_of_none e hF)]; exact e
/-- a new object is laid and frozen -/
theorem Gr.layF {p : Addr} {o : HO} (w : Wd K F H m S) (hp : H p = none) : Gr K F H m (upd F p o) (upd H p o) m S :=
  ⟨(w.lay hp).frz upd_same (w.newNot hp) (w.newF hp), sub_upd (w.newF hp), Ext.refl, fun a u h1 h2 h3 => by
    have hne := ne_of_none h1 hp
    exact ⟨by rw [upd_ne hne]; exact h1, by rw [upd_ne hne]; exact h2, h3⟩⟩
/-- what a result is may be frozen -/
theorem freeze {b : D × Bool} {v : V} (g : Gr K F H m F1 H1 m1 S1) (r : RepB K H F1 H1 m1 b v) : ∃ F2, Gr K F H m F2 H1 m1 S1 ∧ Sub F1 F2 ∧ Rep K F2 m1 b.1 v := by
  obtain ⟨d, o⟩ := b
  cases o with
  | false => exact ⟨F1, g, Sub.refl, r⟩
  | true =>
    obtain ⟨p, xs, ds, e1, e2, h0, h1, h2, h3, h4, h5⟩ := r
    refine ⟨upd F1 p (.lst xs), ⟨g.w.frz h1 h3 h2, g.up.trans (sub_upd h2), g.ext, fun a u q1 q2 q3 => ?_⟩, sub_upd h2, ?_⟩
    · obtain ⟨z1, z2, z3⟩ := g.frm a u q1 q2 q3
      exact ⟨z1, by rw [upd_ne (ne_of_none q1 h0)]; exact z2, z3⟩
    · have e1' : d = .lst ds := e1
      subst e1' e2
      simp only [Rep]
      exact ⟨p, xs, rfl, upd_same, h4, h5.up (sub_upd h2) Ext.refl⟩
end
end EV

namespace EV
open PySem PySem.Spec PyProof.Rows L2

/-- an end: a value, an own exception (its class, its value), or nothing is said -/
inductive R (α : Type) where
  | ok (a : α) (s : Cells)
  | exn (c : Str) (d : D) (s : Cells)
  | no
def R.bind {α β : Type} (r : R α) (f : α → Cells → R β) : R β :=
  match r with
  | .ok a s => f a s
  | .exn c d s => .exn c d s
  | .no => .no
abbrev B := D × Bool
abbrev En := List (Option D)
abbrev Fk := Str × Option Str
abbrev Ca := Fk → List D → Cells → R B
abbrev SE := Ca → En → Cells → R B
abbrev ST := Ca → En → Cells → R Bool
abbrev SA := Ca → En → Cells → R (List D)
abbrev St := L2.St

def REnv (K : PySem.W.Frag) (F : Hp) (m : List Addr) (ρ : En) (σ : St) : Prop := ρ.length = σ.length ∧ ∀ (i : Nat) d, ρ[i]? = some (some d) → ∃ v, σ[i]? = some (some v) ∧ Rep K F m d v
theorem REnv.gr {K : PySem.W.Frag} {F H F' H' : Hp} {m m' : List Addr} {S' : Cells} {ρ : En} {σ : St} (g : Gr K F H m F' H' m' S') (r : REnv K F m ρ σ) : REnv K F' m' ρ σ := ⟨r.1, fun i d e => by
  obtain ⟨v, h1, h2⟩ := r.2 i d e
  exact ⟨v, h1, h2.gr g⟩⟩

/-- what is wished of an exception that has value d -/
def Wish (K : PySem.W.Frag) (W : WX) (σ : St) (F H : Hp) (m : List Addr) (c : Str) (d : D) (S' : Cells) : Prop :=
  ∀ (dx : Addr) (x : V) F' H' m', Gr K F H m F' H' m' S' → H dx = none → F' dx = none → dx ∉ m' → H' dx = some (.xd [(("value" : Str), x)]) → Rep K F' m' d x → W (.ref (He.ga K c)) (some dx) σ H'
/-- what is wanted of an end -/
def Post {α : Type} (K : PySem.W.Frag) (W : WX) (σ : St) (F H : Hp) (m : List Addr) (r : R α) (out : α → Cells → Hp → Hp → List Addr → Prop) : Prop :=
  match r with
  | .ok a S' => ∀ F' H' m', Gr K F H m F' H' m' S' → out a S' F' H' m'
  | .exn c d S' => Wish K W σ F H m c d S'
  | .no => False

/-- the reading of an expression by a function on data -/
def tE (K : PySem.W.Frag) (W : WX) (f : En → Cells → R B) : TE := fun σ H Q => ∃ ρ S F m, Wd K F H m S ∧ REnv K F m ρ σ ∧
  Post K W σ F H m (f ρ S) fun b _ F' H' m' => ∀ v, RepB K H F' H' m' b v → Q v H'
def tT (K : PySem.W.Frag) (W : WX) (f : En → Cells → R Bool) : TT := fun σ H Q => ∃ ρ S F m, Wd K F H m S ∧ REnv K F m ρ σ ∧
  Post K W σ F H m (f ρ S) fun b _ _ H' _ => Q b H'
def tA (K : PySem.W.Frag) (W : WX) (f : En → Cells → R (List D)) : TA := fun σ H Q => ∃ ρ S F m, Wd K F H m S ∧ REnv K F m ρ σ ∧
  Post K W σ F H m (f ρ S) fun ds _ F' H' m' => ∀ vs, RepL K F' m' ds vs → Q vs H'

section
variable {K : PySem.W.Frag} {W : WX} {σ : St} {F H F1 H1 : Hp} {m m1 : List Addr} {S S1 : Cells} {ρ : En} {α β : Type}
theorem Gr.fresh {p : Addr} (g : Gr K F H m F1 H1 m1 S1) (h0 : H1 p = none) : H p = none := by
  cases e : H p with
  | none => rfl
  | some o =>
    by_cases hF : F p = none
    · by_cases hm : p ∈ m
      · obtain ⟨i, hi⟩ := List.mem_iff_getElem?.mp hm
        have hm1 : p ∈ m1 := List.mem_of_getElem? (g.ext i p hi)
        obtain ⟨xs, q⟩ := g.w.cellThere hm1
        rw [h0] at q; cases q
      · have := (g.frm p o e hF hm).1
        rw [h0] at this; cases this
    · cases q : F p with
      | none => exact absurd q hF
      | some u =>
        have := g.w.sub p u (g.up p u q)
        rw [h0] at this; cases this
theorem Wish.gr {c : Str} {d : D} {S' : Cells} (g : Gr K F H m F1 H1 m1 S1) (w : Wish K W σ F H m c d S') : Wish K W σ F1 H1 m1 c d S' := fun dx x F' H' m' g' h0 h1 h2 h3 h4 =>
  w dx x F' H' m' (g.trans g') (g.fresh h0) h1 h2 h3 h4
theorem RepB.weak {b : B} {v : V} {F' H' : Hp} {m' : List Addr} (g : Gr K F H m F1 H1 m1 S1) (r : RepB K H1 F' H' m' b v) : RepB K H F' H' m' b v := by
  obtain ⟨d, o⟩ := b
  cases o with
  | false => exact r
  | true =>
    obtain ⟨p, xs, ds, e1, e2, h0, h⟩ := r
    exact ⟨p, xs, ds, e1, e2, g.fresh h0, h⟩
theorem Post.mono {r : R α} {out out2 : α → Cells → Hp → Hp → List Addr → Prop} (h : Post K W σ F H m r out)
    (k : ∀ a S' F' H' m', r = .ok a S' → Gr K F H m F' H' m' S' → out a S' F' H' m' → out2 a S' F' H' m') : Post K W σ F H m r out2 := by
  cases r with
  | ok a S' => exact fun F' H' m' g => k a S' F' H' m' rfl g (h F' H' m' g)
  | exn c d S' => exact h
  | no => exact h
theorem Post.bind {r : R α} {k : α → Cells → R β} {out : β → Cells → Hp → Hp → List Addr → Prop} (h : Post K W σ F H m (r.bind k) out) :
    Post K W σ F H m r fun a S1 F1 H1 m1 => Post K W σ F1 H1 m1 (k a S1) out := by
  cases r with
  | ok a S1 =>
    intro F1 H1 m1 g
    have h' : Post K W σ F H m (k a S1) out := h
    cases e : k a S1 with
    | ok b S2 =>
      rw [e] at h'
      exact fun F' H' m' g' => h' F' H' m' (g.trans g')
    | exn c d S2 =>
      rw [e] at h'
      exact Wish.gr g h'
    | no => rw [e] at h'; exact h'
  | exn c d S' => exact h
  | no => exact h
/-- an expression whose value is frozen -/
theorem tE.ofF {f : En → Cells → R B} {Q : VK} (w : Wd K F H m S) (r : REnv K F m ρ σ) (h : Post K W σ F H m (f ρ S) fun b _ F' H' m' => ∀ v, Rep K F' m' b.1 v → Q v H') : tE K W f σ H Q := by
  refine ⟨ρ, S, F, m, w, r, ?_⟩
  cases e : f ρ S with
  | ok b S1 =>
    rw [e] at h
    intro F' H' m' g v rb
    obtain ⟨F2, g2, _, r2⟩ := freeze g rb
    exact h F2 H' m' g2 v r2
  | exn c d S1 => rw [e] at h; exact h
  | no => rw [e] at h; exact h
theorem Gr.w' {F' H' : Hp} {m' : List Addr} {S' : Cells} (g : Gr K F H m F' H' m' S') : Wd K F' H' m' S' := g.w
end

section
variable {X : Cx}
theorem PE.imp {e : Expr} {t t' : TE} (h : PE X e t) (k : ∀ σ H Q, t' σ H Q → t σ H Q) : PE X e t' := ⟨fun pins s σ H Q I q => h.run pins s σ H Q I (k σ H Q q)⟩
theorem PT.imp {e : Expr} {t t' : TT} (h : PT X e t) (k : ∀ σ H Q, t' σ H Q → t σ H Q) : PT X e t' := ⟨fun pins s σ H Q I q => h.run pins s σ H Q I (k σ H Q q)⟩
theorem PW.imp {e : Expr} {t t' : TT} (h : PW X e t) (k : ∀ σ H Q, t' σ H Q → t σ H Q) : PW X e t' := ⟨fun wh pins s σ H Q I q => h.run wh pins s σ H Q I (k σ H Q q)⟩
theorem PA.imp {e : List Expr} {t t' : TA} (h : PA X e t) (k : ∀ σ H Q, t' σ H Q → t σ H Q) : PA X e t' := ⟨fun pos pins s σ H Q I q => h.run pos pins s σ H Q I (k σ H Q q)⟩
theorem PS.imp {e : Stmt} {t t' : TS} (h : PS X e t) (k : ∀ D σ H, t' D σ H → t D σ H) : PS X e t' := ⟨fun pins s σ H D I q => h.run pins s σ H D I (k D σ H q)⟩
theorem PSs.imp {e : List Stmt} {t t' : TS} (h : PSs X e t) (k : ∀ D σ H, t' D σ H → t D σ H) : PSs X e t' := ⟨fun pins s σ H D I q => h.run pins s σ H D I (k D σ H q)⟩
theorem OpR.imp {f : Value → Value → Sem Value} {r r' : R2} (h : OpR X f r) (k : ∀ x y H Q, r' x y H Q → r x y H Q) : OpR X f r' := by
  intro pins s σ H x y v u Q I rx ry q
  exact h pins s σ H x y v u Q I rx ry (k x y H Q q)
end
end EV

namespace EV
open PySem PySem.Spec PyProof.Rows L2

/-- room for k calls, and nobody prints -/
structure Rm (k : Nat) (A : Around) : Prop where
  rm : Room k A
  gd : A.guards = some []
theorem Rm.mono {j k : Nat} {A : Around} (r : Rm k A) (h : j ≤ k) : Rm j A := ⟨r.rm.mono h, r.gd⟩
theorem deeper_gd {A : Around} {env : Env} (h : A.guards = some []) : (A.deeper env).guards = some [] := by
  first
    | exact h
    | (simpa [Around.deeper, Around.under, Code.guards, pushGuards, Code.isGuard] using h)
theorem Rm.deeper {k : Nat} {A : Around} (r : Rm (k + 1) A) (env : Env) : Rm k (A.deeper env) := ⟨r.rm.deeper env, deeper_gd r.gd⟩

/-- a def at f keeps sp, called where there is room and nobody prints -/
structure FnG (P : Program) (w : World) (K : PySem.W.Frag) (mg : Str → Option Value) (base : Heap) (C : CXT) (k : Nat) (f : Addr) (fd : FuncData) (ps : List Str) (sp : Sp) : Prop where
  len : ∀ vs H Q E, sp vs H Q E → vs.length = ps.length
  run : ∀ (A : Around) (outer : List Env) (s : Shared) (H : Hp) (args : Args) (us : List Value) (vs : List V) (Q : VK) (E : XK),
    Rm k A → Env0 P w K mg base A outer s H → BindsTo s fd args (ps.zip us) → Vals vs us → sp vs H Q E →
      codeAny (model P w) A (.call (.ref f) args) (CR C outer P w H s Q E) s
section
variable {P : Program} {w : World} {K : PySem.W.Frag} {mg : Str → Option Value} {base : Heap} {C : CXT} {k : Nat} {f : Addr} {fd : FuncData} {ps N : List Str} {sp : Sp}
  {x qual : Str} {params : Arguments} {body : List Stmt} {scope : Scope} {dvs : List V} {kws : List (Str × V)}
theorem FnG.mono {j : Nat} (F : FnG P w K mg base C j f fd ps sp) (h : j ≤ k) : FnG P w K mg base C k f fd ps sp :=
  ⟨F.len, fun A outer s H args us vs Q E hr => F.run A outer s H args us vs Q E (hr.mono h)⟩
/-- from a body that keeps it -/
theorem fnG_of (F : FunD K x qual params body scope dvs kws f fd) (S : FnScope N ps scope) (len : ∀ vs H Q E, sp vs H Q E → vs.length = ps.length)
    (hbody : ∀ (cdv : Value) (A : Around) (outer : List Env) (s : Shared) (H : Hp) (vs : List V) (Q : VK) (E : XK),
      fd.code = cdv → Rm k (A.deeper (envOfC qual scope s.heap.objs.size f cdv)) → sp vs H Q E →
        ∃ t, PSs (cxOf C P w K mg base N qual scope f cdv A outer s H E) body t ∧ t { nx := fun _ H' => Q .non H', rt := Q } (start N vs) H) :
    FnG P w K mg base C (k + 1) f fd ps sp := by
  obtain ⟨oc, od, dV, kV, doc, pm, an, cdv, ct, osl, rfl, lk, hcd, _, _⟩ := F.ex
  refine ⟨len, fun A outer s H args us vs Q E hr e0 hb r hsp => ?_⟩
  have keep : ∀ b o, base.get? b = some o → s.heap.get? b = some o := fun b o q => (e0.bs b o q).1
  have KX : K.In s.heap := e0.mod.kin.keeps keep
  have par : ∀ y ∈ ps.zip us, scope.names.lookup y.1 = some .local ∨
      (scope.names.lookup y.1 = some .cell ∧ ((cellsFrom (s.heap.objs.size + 1) scope.names []).lookup y.1).isSome = true) := by
    rintro ⟨n, v⟩ hy
    exact (S.par n (List.of_mem_zip hy).1).imp id fun q => ⟨q, PySem.W.cellsFrom_some _ _ _ (.inl q)⟩
  refine codeAny_call_function hr.rm.depth (KX _ _ lk) rfl S.co S.gen rfl (PySem.W.codeRec_of KX hcd) (hb _ _ _ _ ?_)
  refine wpAny_newFunctionEnv_cells S.kind par fun env he s1 y => ?_
  subst he
  refine ⟨(e0.mod.nolimit.keeps keep).keeps y.toInCall.keep, codeAny_func ?_⟩
  obtain ⟨t, ht, hq⟩ := hbody cdv A outer s H vs Q E rfl (hr.deeper _) hsp
  have I := inv_start (CX := C) (E := E) S hr.rm.hd e0 (len _ _ _ _ hsp) r y
  refine wpAny_mono (ht.run [] s1 _ H _ I hq) (fun fl s' hs => ?_) fun e s' hs => hs
  cases fl with
  | ret u =>
    obtain ⟨v, σ', H', J, rv, q⟩ := hs
    exact ⟨v, H', J.os, J.bare, J.base, J.hok, rv, q⟩
  | next =>
    obtain ⟨σ', H', J, q⟩ := hs
    exact ⟨.non, H', J.os, J.bare, J.base, J.hok, rfl, q⟩
  | brk => exact hs.elim fun _ z => z.elim fun _ z => z.2.elim
  | cont => exact hs.elim fun _ z => z.elim fun _ z => z.2.elim
end

/-- what a call promises by a function on data -/
def spOf (K : PySem.W.Frag) (ca : Ca) (k : Fk) (n : Nat) : Sp := fun vs H Q E => vs.length = n ∧ ∃ ds S F m, Wd K F H m S ∧ RepL K F m ds vs ∧
  Post K (fun c d _ H' => E c d H') [] F H m (ca k ds S) fun b _ F' H' m' => ∀ v, RepB K H F' H' m' b v → Q v H'

/-- a def of the text: its parameters, its defaults -/
structure FnI where
  ps : List Str
  dfl : List D
/-- an own class: __init__'s parameters without self, the fields in the sequence of their setting, properties that tell a field, methods (self first) -/
structure ClI where
  ps : List Str
  fs : List Str
  props : List (Str × Str)
  mts : List (Str × FnI)
structure Pg where
  fns : List (Str × FnI)
  cons : List (Str × D)
  blts : List Str
  excs : List Str
  cls : List (Str × ClI) := []
  mks : List Str := []
  hv : Bool × Bool := (false, false)
  me : Option Str := none
  eqn : List Str := []
/-- what a def that makes lambdas wants of room beyond others -/
def Pg.ex (pg : Pg) : Nat := match pg.me with
  | none => 0
  | some _ => 2
/-- the def's code object, its table -/
abbrev tbC (K : PySem.W.Frag) (n : Str) : Addr := (He.cT K (n, none)).1
abbrev tbP (K : PySem.W.Frag) (n : Str) : Addr := (He.cT K (n, none)).2
def lamQ (n : Str) : Str := n ++ ".<locals>." ++ "<lambda>"
/-- error c is an x -/
def subE (c x : Str) : Bool := c == x || x == ("LotError" : Str)

/-- what the making of a C promises: the new object at p, its dict at dx; H1 the heap ahead -/
def spIni (K : PySem.W.Frag) (ca : Ca) (c : Str) (n : Nat) : Sp := fun vs H Q E => vs.length = n + 1 ∧ ∃ (H1 : Hp) (p dx : Addr) (args : List V) (ds : List D) (S : Cells) (F : Hp) (m : List Addr),
  vs = .ref p :: args ∧ H = upd (upd H1 dx (.own p)) p (.ins (He.ga K c) dx []) ∧ H1 p = none ∧ H1 dx = none ∧ dx ≠ p ∧ Wd K F H1 m S ∧ RepL K F m ds args ∧
  Post K (fun c d _ H' => E c d H') [] F H1 m (ca (c, some "__init__") ds S) fun b _ F' H' m' => RepB K H1 F' H' m' b (.ref p) → Q .non H'
def bindOk (K : PySem.W.Frag) (fd : FuncData) (i : FnI) : Prop := ∀ n, n + i.dfl.length ≥ i.ps.length → n ≤ i.ps.length → ∃ dvs us, Vals dvs us ∧ Binds K fd i.ps us ∧ ∀ H m, RepL K H m (i.dfl.drop (n + i.dfl.length - i.ps.length)) dvs
/-- what the head's run says of == and isinstance with an own class -/
def tyAll : List String := ["NoneType", "bool", "int", "str", "tuple", "list", "dict"]
structure CmpC (K : PySem.W.Frag) (C : Addr) : Prop where
  ty : ∀ a, a ∈ tyAll → PySem.W.kitOne K (.type a) (.ref C) = some false
  nf : ∀ a, a ∈ tyAll → PySem.W.notFirst K C (.type a) = true
  ne : PySem.W.findIn K (.ref C) "__ne__" = some (some (.builtin "object.__ne__"))
  ca : PySem.W.findIn K (.ref C) "__class__" = some (some (.builtin "object.__class__"))
  cg : PySem.W.specialIn K (.builtin "object.__class__") "__get__" = some (some (.builtin "getset_descriptor.__get__"))
  ct : PySem.W.takesIn K (.builtin "object.__class__") = some true
  ob : PySem.W.mroIn K C (.type "object") = some true
structure ClOk (P : Program) (w : World) (K : PySem.W.Frag) (mg : Str → Option Value) (base : Heap) (ca : Ca) (lev : Nat) (c : Str) (i : ClI) : Prop where
  mgC : mg c = some (.ref (He.ga K c))
  cl : Cls K (He.ga K c)
  made : ∃ f fd j, Mk K (He.ga K c) f ∧ j + 1 ≤ lev ∧ FnG P w K mg base (CX P w) j f fd ("self" :: i.ps) (spIni K ca c i.ps.length) ∧ Binds K fd ("self" :: i.ps) []
  fld : ∀ f, f ∈ i.fs → NoAttr K (He.ga K c) f
  prop : ∀ x f, i.props.lookup x = some f → ∃ p g fd, PropOf K (He.ga K c) x p g ∧ FnOk P w K mg base (CX P w) 1 g fd ["self"] (getSp (He.ga K c) f) ∧ Binds K fd ["self"] []
  mt : ∀ x fi, i.mts.lookup x = some fi → ∃ f fd j, Meth K (He.ga K c) x f ∧ j + 1 ≤ lev ∧ FnG P w K mg base (CX P w) j f fd fi.ps (spOf K ca (c, some x) fi.ps.length) ∧ bindOk K fd fi
  cmp : CmpC K (He.ga K c)

/-! the def that hears: try: back = call() / except LotError as error: caught = error -/
def hAn (v : Bool × Bool) : Str := if v.1 then "_law_look" else "_law_call"
def hEn (v : Bool × Bool) : Str := if v.2 then "_law_error" else "error"
def heardN (v : Bool × Bool) : List Str := [hAn v, "_law_caught", "_law_back", hEn v]
def heardScope (v : Bool × Bool) : Scope := { kind := .function, names := [(hAn v, .local), ("_law_caught", .local), ("_law_back", .local), (hEn v, .local), ("LotError", .globalImplicit)], isGenerator := false, isCoroutine := false, more := [] }
def hd1 (q : List Pos) : Stmt := .Assign [.Tuple [.Name "_law_caught" (q.getD 0 default), .Name "_law_back" (q.getD 1 default)] 0 (q.getD 2 default)] (.Tuple [.Constant .none 0 (q.getD 3 default), .Constant .none 0 (q.getD 4 default)] 0 (q.getD 5 default)) (q.getD 6 default)
def hd2 (v : Bool × Bool) (q : List Pos) : Stmt := .Try [.Assign [.Name "_law_back" (q.getD 7 default)] (.Call (.Name (hAn v) (q.getD 8 default)) [] [] (q.getD 9 default)) (q.getD 10 default)] [.ExceptHandler (some (.Name "LotError" (q.getD 11 default))) (some (hEn v)) [.Assign [.Name "_law_caught" (q.getD 12 default)] (.Name (hEn v) (q.getD 13 default)) (q.getD 14 default)] (q.getD 15 default)] [] [] (q.getD 16 default)
def hd3 (q : List Pos) : Stmt := .Return (some (.Tuple [.Name "_law_caught" (q.getD 17 default), .Name "_law_back" (q.getD 18 default)] 0 (q.getD 19 default))) (q.getD 20 default)
def heardBody (v : Bool × Bool) (q : List Pos) : List Stmt := [hd1 q, hd2 v q, hd3 q]
/-- the def that hears, as the head has left it -/
structure HeardF (K : PySem.W.Frag) (mg : Str → Option Value) (hv : Bool × Bool) : Prop where
  le : mg "LotError" = some (.ref (He.ga K "LotError"))
  ex : ∃ (g : Addr) (pgs : Arguments) (q : List Pos) (dV kV doc pm cdv ct oc : Value) (an od : Option Addr) (osl : Array (Option Value)),
    mg "_law_heard" = some (.ref g) ∧ PySem.W.keepIn K (.ref g) = true ∧ K.lookup g = some ⟨oc, od, .func (PySem.W.fnOf "_law_heard" "_law_heard" pgs (heardBody hv q) (heardScope hv) dV kV doc pm an cdv ct), osl⟩ ∧
    PySem.W.codeIn K cdv "_law_heard" = true ∧ L2.Binds K (PySem.W.fnOf "_law_heard" "_law_heard" pgs (heardBody hv q) (heardScope hv) dV kV doc pm an cdv ct) [hAn hv] []
structure PgOk (P : Program) (w : World) (K : PySem.W.Frag) (mg : Str → Option Value) (base : Heap) (pg : Pg) (ca : Ca) (lev : Nat) : Prop where
  fn : ∀ x i, pg.fns.lookup x = some i → ∃ f fd, mg x = some (.ref f) ∧ PySem.W.keepIn K (.ref f) = true ∧ FnG P w K mg base (CX P w) lev f fd i.ps (spOf K ca (x, none) i.ps.length) ∧
    ∀ n, n + i.dfl.length ≥ i.ps.length → n ≤ i.ps.length → ∃ dvs us, Vals dvs us ∧ Binds K fd i.ps us ∧ ∀ H m, RepL K H m (i.dfl.drop (n + i.dfl.length - i.ps.length)) dvs
  con : ∀ x d, pg.cons.lookup x = some d → ∃ u v, mg x = some u ∧ RelV v u ∧ ∀ H m, Rep K H m d v
  blt : ∀ x, x ∈ pg.blts → mg x = none
  exc : ∀ x, x ∈ pg.excs → EVX.ErrC P K mg x
  sub : ∀ c x, c ∈ pg.excs → x ∈ pg.excs → PySem.W.kitOne K (.ref (He.ga K c)) (.ref (He.ga K x)) = some (subE c x)
  ve : ∀ c, c ∈ pg.excs → PySem.W.kitOne K (.ref (He.ga K c)) (.type "ValueError") = some true
  sys : (K.lookup sysModules).isSome = true
  lev2 : 2 ≤ lev
  cls : ∀ c i, pg.cls.lookup c = some i → ClOk P w K mg base ca lev c i
  tb : ∀ n, n ∈ pg.mks → LamX.TabB base mg (tbC K n) (tbP K n)
  hrd : pg.mks ≠ [] → HeardF K mg pg.hv

structure Ctx (X : Cx) (sc : Scope) (N : List Str) (pg : Pg) (ca : Ca) (lev : Nat) (W : WX) : Prop where
  sc : X.env.scope = sc
  names : X.N = N
  nd : X.N.Nodup
  calm : X.calm = true
  room2 : Rm (lev + pg.ex) X.A
  lib : PgOk X.prog X.w X.K X.mg X.base pg ca lev
  tk : Takes X W
  mker : ∀ n, pg.me = some n → n ∈ pg.mks ∧ X.env.qual ++ "<lambda>" = lamQ n ∧ X.env.code = .ref (tbC X.K n)
theorem Ctx.room {X : Cx} {sc : Scope} {N : List Str} {pg : Pg} {ca : Ca} {lev : Nat} {W : WX} (C : Ctx X sc N pg ca lev W) : Rm lev X.A := C.room2.mono (Nat.le_add_right _ _)

def OkE (pg : Pg) (N : List Str) (sc : Scope) (e : Expr) (f : SE) : Prop := ∀ X ca lev W, Ctx X sc N pg ca lev W → PE X e (tE X.K W (f ca))
def OkT (pg : Pg) (N : List Str) (sc : Scope) (e : Expr) (f : ST) : Prop := ∀ X ca lev W, Ctx X sc N pg ca lev W → PT X e (tT X.K W (f ca))
def OkA (pg : Pg) (N : List Str) (sc : Scope) (es : List Expr) (f : SA) : Prop := ∀ X ca lev W, Ctx X sc N pg ca lev W → PA X es (tA X.K W (f ca))
end EV

namespace EV
open PySem PySem.Spec PyProof.Rows L2

/-! ### results -/
def Outs (K : PySem.W.Frag) (F H : Hp) (m : List Addr) (S : Cells) (b : B) (Q : VK) : Prop := ∀ v F' H' m', Gr K F H m F' H' m' S → RepB K H F' H' m' b v → Q v H'
section
variable {K : PySem.W.Frag} {F H : Hp} {m : List Addr} {S : Cells} {Q : VK}
theorem Outs.val {d : D} {v : V} (w : Wd K F H m S) (o : Outs K F H m S (d, false) Q) (r : Rep K F m d v) : Q v H := o v F H m (Gr.refl w) r
theorem Outs.tup {ds : List D} {xs : List V} (w : Wd K F H m S) (o : Outs K F H m S (.tup ds, false) Q) (r : RepL K F m ds xs) (hz : xs.length ≤ sizeLine) (p : Addr) (hp : H p = none) : Q (.ref p) (upd H p (.tup xs)) := by
  refine o (.ref p) (upd F p (.tup xs)) _ m (Gr.layF w hp) ?_
  show Rep K _ m (.tup ds) _
  simp only [Rep]
  exact ⟨p, xs, rfl, SqT.of upd_same, hz, r.up (sub_upd (w.newF hp)) Ext.refl⟩
theorem Outs.lst {ds : List D} {xs : List V} (w : Wd K F H m S) (o : Outs K F H m S (.lst ds, true) Q) (r : RepL K F m ds xs) (hz : xs.length ≤ sizeLine) (p : Addr) (hp : H p = none) : Q (.ref p) (upd H p (.lst xs)) :=
  o (.ref p) F _ m (Gr.lay w hp) ⟨p, xs, ds, rfl, rfl, hp, upd_same, w.newF hp, w.newNot hp, hz, r⟩
end

def rD1 (K : PySem.W.Frag) (g : Cells → D → Option B) : V → Hp → VK → Prop := fun x H Q => ∃ F m S d b, Wd K F H m S ∧ Rep K F m d x ∧ g S d = some b ∧ Outs K F H m S b Q
def rD2 (K : PySem.W.Frag) (g : Cells → D → D → Option B) : R2 := fun x y H Q => ∃ F m S d e b, Wd K F H m S ∧ Rep K F m d x ∧ Rep K F m e y ∧ g S d e = some b ∧ Outs K F H m S b Q
def rDn (K : PySem.W.Frag) (g : Cells → List D → Option B) : List V → Hp → VK → Prop := fun xs H Q => ∃ F m S ds b, Wd K F H m S ∧ RepL K F m ds xs ∧ g S ds = some b ∧ Outs K F H m S b Q

def lift (o : Option B) (S : Cells) : R B :=
  match o with
  | some b => .ok b S
  | none => .no

/-! ### the combinators -/
def cVar (i : Nat) : SE := fun _ ρ S =>
  match ρ[i]? with
  | some (some d) => .ok (d, false) S
  | _ => .no
def cCon (d : D) : SE := fun _ _ S => .ok (d, false) S
def cOp1 (g : Cells → D → Option B) (f : SE) : SE := fun ca ρ S => (f ca ρ S).bind fun a S => lift (g S a.1) S
def cOp2 (g : Cells → D → D → Option B) (f h : SE) : SE := fun ca ρ S => (f ca ρ S).bind fun a S => (h ca ρ S).bind fun b S => lift (g S a.1 b.1) S
def cOpn (g : Cells → List D → Option B) (a : SA) : SE := fun ca ρ S => (a ca ρ S).bind fun ds S => lift (g S ds) S
def aNil : SA := fun _ _ S => .ok [] S
def aCons (f : SE) (a : SA) : SA := fun ca ρ S => (f ca ρ S).bind fun b S => (a ca ρ S).bind fun ds S => .ok (b.1 :: ds) S
def gTupN (_ : Cells) (ds : List D) : Option B := if ds.length ≤ 16777216 then some (.tup ds, false) else none
def gLstN (_ : Cells) (ds : List D) : Option B := if ds.length ≤ 16777216 then some (.lst ds, true) else none
def cCall (k : Fk) (dfl : List D) (a : SA) : SE := fun ca ρ S => (a ca ρ S).bind fun ds S => ca k (ds ++ dfl) S

theorem line24 : sizeLine = 16777216 := by decide

section
variable {pg : Pg} {N : List Str} {sc : Scope}
/-! ### names, constants -/
def visB (sc : Scope) (x : Str) : Bool := match sc.names.lookup x with
  | some .local => true
  | some .cell => true
  | some .free => true
  | _ => false
def glB (sc : Scope) (x : Str) : Bool := match sc.names.lookup x with
  | some .globalImplicit => true
  | _ => false
theorem visB_ok {x : Str} (h : visB sc x = true) : Vis sc x := by
  unfold visB at h
  split at h
  · exact .inl (by assumption)
  · exact .inr (.inl (by assumption))
  · exact .inr (.inr (by assumption))
  · cases h
def slot? (N : List Str) (x : Str) : Option Nat := N.findIdx? (· == x)
theorem slot_ok {x : Str} {i : Nat} (h : slot? N x = some i) : N[i]? = some x := by
  unfold slot? at h
  obtain ⟨h1, h2, _⟩ := List.findIdx?_eq_some_iff_getElem.mp h
  rw [List.getElem?_eq_getElem h1]
  exact congrArg some (eq_of_beq h2)
def plainName (x : Str) : Bool := !(x == ("__debug__" : Str)) && !(x == ("__classdict__" : Str)) && !(x == ("__name__" : Str))
theorem plain1 {x : Str} (h : plainName x = true) : (x == ("__debug__" : Str)) = false ∧ (x == ("__classdict__" : Str)) = false ∧ x ≠ "__name__" := by
  unfold plainName at h
  simp only [Bool.and_eq_true, Bool.not_eq_true'] at h
  exact ⟨h.1.1, h.1.2, fun e => by
    have := h.2
    rw [beq_eq_false_iff_ne] at this
    exact this e⟩
theorem okVar {x : Str} {i : Nat} {pos : Pos} (h : slot? N x = some i) (hv : visB sc x = true) (hp : plainName x = true) : OkE pg N sc (.Name x pos) (cVar i) := fun X ca lev W C => by
  refine PE.imp (pe_var (i := i) (by rw [C.names]; exact slot_ok h) (by rw [C.sc]; exact visB_ok hv) (plain1 hp).1 (plain1 hp).2.1) fun σ H Q ⟨ρ, S, F, m, w, r, q⟩ => ?_
  unfold cVar at q
  split at q
  · rename_i d e
    obtain ⟨v, h1, h2⟩ := r.2 i d e
    exact ⟨v, h1, q F H m (Gr.refl w) v h2⟩
  · exact q.elim
theorem Ctx.gl {X : Cx} {ca : Ca} {lev : Nat} {W : WX} (C : Ctx X sc N pg ca lev W) {x : Str} (h : glB sc x = true) : Gl X x := by
  unfold glB at h
  split at h
  · show X.env.scope.names.lookup x = _
    rw [C.sc]; assumption
  · cases h
theorem okGlob {x : Str} {d : D} {pos : Pos} (hg : glB sc x = true) (hp : plainName x = true) (hd : pg.cons.lookup x = some d) : OkE pg N sc (.Name x pos) (cCon d) := fun X ca lev W C => by
  obtain ⟨u, v, h1, h2, h3⟩ := C.lib.con x d hd
  refine PE.imp (pe_glob (C.gl hg) h1 h2 (plain1 hp).1) fun σ H Q ⟨ρ, S, F, m, w, r, q⟩ => ?_
  exact q F H m (Gr.refl w) v (h3 F m)
theorem okNon {j : Nat} {pos : Pos} : OkE pg N sc (.Constant .none j pos) (cCon .non) := fun X ca lev W C =>
  PE.imp pe_non fun σ H Q ⟨ρ, S, F, m, w, r, q⟩ => q F H m (Gr.refl w) _ (by show Rep _ _ _ _ _; simp only [Rep])
theorem okBl {b : Bool} {j : Nat} {pos : Pos} : OkE pg N sc (.Constant (.bool b) j pos) (cCon (.bl b)) := fun X ca lev W C =>
  PE.imp pe_bl fun σ H Q ⟨ρ, S, F, m, w, r, q⟩ => q F H m (Gr.refl w) _ (by show Rep _ _ _ _ _; simp only [Rep])
theorem okInt {i : Int} {j : Nat} {pos : Pos} : OkE pg N sc (.Constant (.int i) j pos) (cCon (.int i)) := fun X ca lev W C =>
  PE.imp pe_int fun σ H Q ⟨ρ, S, F, m, w, r, q⟩ => q F H m (Gr.refl w) _ (by show Rep _ _ _ _ _; simp only [Rep])
theorem okStr {x : Str} {j : Nat} {pos : Pos} (hx : x.length ≤ 16777216) (hc : cpOk x = true) : OkE pg N sc (.Constant (.str x) j pos) (cCon (.str x)) := fun X ca lev W C =>
  PE.imp pe_str fun σ H Q ⟨ρ, S, F, m, w, r, q⟩ => q F H m (Gr.refl w) _ (by show Rep _ _ _ _ _; simp only [Rep]; rw [line24]; exact ⟨trivial, hx, hc⟩)

/-! ### lists of arguments -/
def noStar : Expr → Bool
  | .Starred .. => false
  | _ => true
theorem starEach_cons {e : Expr} {es : List Expr} {env : Env} (h : noStar e = true) : starEach (e :: es) env = (false, eval e env) :: starEach es env := by
  cases e <;> first | rfl | cases h
theorem noStar_any {pos : Pos} {env : Env} : ∀ {es : List Expr}, es.all noStar = true → (backTo pos (starEach es env)).any (·.1) = false
  | [], _ => rfl
  | e :: es, h => by
    simp only [List.all_cons, Bool.and_eq_true] at h
    rw [starEach_cons h.1]
    show (false || (backTo pos (starEach es env)).any (·.1)) = false
    rw [noStar_any h.2]; rfl
theorem okNil : OkA pg N sc [] aNil := fun X ca lev W C => PA.imp pa_nil fun σ H Q ⟨ρ, S, F, m, w, r, q⟩ => q F H m (Gr.refl w) [] .nil
theorem okCons {e : Expr} {es : List Expr} {f : SE} {a : SA} (hs : noStar e = true) (he : OkE pg N sc e f) (ha : OkA pg N sc es a) : OkA pg N sc (e :: es) (aCons f a) := fun X ca lev W C => by
  refine PA.imp (pa_cons (he X ca lev W C) (ha X ca lev W C) (starEach_cons hs)) fun σ H Q ⟨ρ, S, F, m, w, r, q⟩ => ?_
  refine tE.ofF w r (Post.mono (Post.bind q) fun b S1 F1 H1 m1 e1 g1 q1 v rv => ?_)
  refine ⟨ρ, S1, F1, m1, g1.w, r.gr g1, Post.mono (Post.bind q1) fun ds S2 F2 H2 m2 e2 g2 q2 vs rvs => ?_⟩
  exact q2 F2 H2 m2 (Gr.refl g2.w) (v :: vs) (.cons (rv.gr g2) rvs)

/-! ### operations -/
theorem post_lift {K : PySem.W.Frag} {W : WX} {σ : St} {F H : Hp} {m : List Addr} {S : Cells} {o : Option B} {H0 : Hp} {Q : VK} (hH : ∀ p, H p = none → H0 p = none)
    (h : Post K W σ F H m (lift o S) fun b _ F' H' m' => ∀ v, RepB K H0 F' H' m' b v → Q v H') : ∃ b, o = some b ∧ Outs K F H m S b Q := by
  cases o with
  | none => exact h.elim
  | some b =>
    refine ⟨b, rfl, fun v F' H' m' g r => h F' H' m' g v ?_⟩
    obtain ⟨d, o⟩ := b
    cases o with
    | false => exact r
    | true =>
      obtain ⟨p, xs, ds, e1, e2, h0, hr⟩ := r
      exact ⟨p, xs, ds, e1, e2, hH p h0, hr⟩
theorem op2_pre {X : Cx} {W : WX} {ca : Ca} {g : Cells → D → D → Option B} {fa fb : SE} {σ : St} {H : Hp} {Q : VK} (h : tE X.K W (cOp2 g fa fb ca) σ H Q) :
    tOp (rD2 X.K g) (tE X.K W (fa ca)) (tE X.K W (fb ca)) σ H Q := by
  obtain ⟨ρ, S, F, m, w, r, q⟩ := h
  refine tE.ofF w r (Post.mono (Post.bind q) fun b S1 F1 H1 m1 e1 g1 q1 x rx => ?_)
  refine tE.ofF g1.w (r.gr g1) (Post.mono (Post.bind q1) fun b2 S2 F2 H2 m2 e2 g2 q2 y ry => ?_)
  obtain ⟨bb, e3, o⟩ := post_lift (fun p h0 => (g1.trans g2).fresh h0) q2
  exact ⟨F2, m2, S2, b.1, b2.1, bb, g2.w, rx.gr g2, ry, e3, o⟩
theorem okBin {a b : Expr} {op : Operator} {pos : Pos} {g : Cells → D → D → Option B} {fa fb : SE} (ho : ∀ X, OpR X (binaryOp op) (rD2 X.K g)) (ha : OkE pg N sc a fa) (hb : OkE pg N sc b fb) :
    OkE pg N sc (.BinOp a op b pos) (cOp2 g fa fb) := fun X ca lev W C =>
  PE.imp (pe_op (ho X) (ha X ca lev W C) (hb X ca lev W C)) fun σ H Q h => op2_pre h
theorem okUn {a : Expr} {op : UnaryOp} {pos : Pos} {g : Cells → D → Option B} {fa : SE} (ho : ∀ X, UnR X (unaryOp op) (rD1 X.K g)) (ha : OkE pg N sc a fa) : OkE pg N sc (.UnaryOp op a pos) (cOp1 g fa) := fun X ca lev W C => by
  refine PE.imp (pe_un (ho X) (ha X ca lev W C)) fun σ H Q ⟨ρ, S, F, m, w, r, q⟩ => ?_
  refine tE.ofF w r (Post.mono (Post.bind q) fun b S1 F1 H1 m1 e1 g1 q1 x rx => ?_)
  obtain ⟨bb, e3, o⟩ := post_lift (fun p h0 => g1.fresh h0) q1
  exact ⟨F1, m1, S1, b.1, bb, g1.w, rx, e3, o⟩
theorem opn_pre {X : Cx} {W : WX} {ca : Ca} {g : Cells → List D → Option B} {fa : SA} {σ : St} {H : Hp} {Q : VK} (h : tE X.K W (cOpn g fa ca) σ H Q) :
    tA X.K W (fa ca) σ H fun vs H1 => rDn X.K g vs H1 Q := by
  obtain ⟨ρ, S, F, m, w, r, q⟩ := h
  refine ⟨ρ, S, F, m, w, r, Post.mono (Post.bind q) fun ds S1 F1 H1 m1 e1 g1 q1 vs rvs => ?_⟩
  obtain ⟨bb, e3, o⟩ := post_lift (fun p h0 => g1.fresh h0) q1
  exact ⟨F1, m1, S1, ds, bb, g1.w, rvs, e3, o⟩
theorem okTup {es : List Expr} {k : Nat} {pos : Pos} {a : SA} (h : OkA pg N sc es a) : OkE pg N sc (.Tuple es k pos) (cOpn gTupN a) := fun X ca lev W C => by
  refine PE.imp (pe_tup (h X ca lev W C)) fun σ H Q q => ?_
  obtain ⟨ρ, S, F, m, w, r, q⟩ := opn_pre q
  refine ⟨ρ, S, F, m, w, r, Post.mono q fun ds S1 F1 H1 m1 e1 g1 q1 vs rvs => ?_⟩
  obtain ⟨F2, m2, S2, es2, b, w2, r2, e, o⟩ := q1 vs rvs
  unfold gTupN at e
  split at e
  · cases e
    have hz : vs.length ≤ sizeLine := by rw [line24, ← r2.length]; assumption
    exact ⟨hz, fun p hp => Outs.tup w2 o r2 hz p hp⟩
  · cases e
theorem okLst {es : List Expr} {pos : Pos} {a : SA} (h : OkA pg N sc es a) : OkE pg N sc (.List es pos) (cOpn gLstN a) := fun X ca lev W C => by
  refine PE.imp (pe_lst (h X ca lev W C)) fun σ H Q q => ?_
  obtain ⟨ρ, S, F, m, w, r, q⟩ := opn_pre q
  refine ⟨ρ, S, F, m, w, r, Post.mono q fun ds S1 F1 H1 m1 e1 g1 q1 vs rvs => ?_⟩
  obtain ⟨F2, m2, S2, es2, b, w2, r2, e, o⟩ := q1 vs rvs
  unfold gLstN at e
  split at e
  · cases e
    have hz : vs.length ≤ sizeLine := by rw [line24, ← r2.length]; assumption
    exact ⟨hz, fun p hp => Outs.lst w2 o r2 hz p hp⟩
  · cases e
/-- a built-in function, a type called -/
theorem okCallB {x : Str} {id : String} {e : Expr} {es : List Expr} {p pos : Pos} {g : Cells → List D → Option B} {a : SA} (ho : ∀ X, X.calm = true → Rm 0 X.A → CallR X (.builtin id) (rDn X.K g)) (hg : glB sc x = true) (hp : plainName x = true) (hb : x ∈ pg.blts) (hv : bootBuiltins x = some (.builtin id))
    (hs : (e :: es).all noStar = true) (ha : OkA pg N sc (e :: es) a) : OkE pg N sc (.Call (.Name x p) (e :: es) [] pos) (cOpn g a) := fun X ca lev W C => by
  have hs' : noStar e = true ∧ es.all noStar = true := by simpa only [List.all_cons, Bool.and_eq_true] using hs
  refine PE.imp (pe_callB (ho X C.calm (C.room.mono (Nat.zero_le _))) (C.gl hg) (C.lib.blt x hb) hv (ha X ca lev W C) (plain1 hp).2.2 (plain1 hp).1 (starEach_cons hs'.1) (noStar_any hs'.2)) fun σ H Q q => opn_pre q
theorem okCallT {x : Str} {id : String} {e : Expr} {es : List Expr} {p pos : Pos} {g : Cells → List D → Option B} {a : SA} (ho : ∀ X, X.calm = true → Rm 0 X.A → CallR X (.type id) (rDn X.K g)) (hg : glB sc x = true) (hp : plainName x = true) (hb : x ∈ pg.blts) (hv : bootBuiltins x = some (.type id))
    (hs : (e :: es).all noStar = true) (ha : OkA pg N sc (e :: es) a) : OkE pg N sc (.Call (.Name x p) (e :: es) [] pos) (cOpn g a) := fun X ca lev W C => by
  have hs' : noStar e = true ∧ es.all noStar = true := by simpa only [List.all_cons, Bool.and_eq_true] using hs
  refine PE.imp (pe_callTy (ho X C.calm (C.room.mono (Nat.zero_le _))) (C.gl hg) (C.lib.blt x hb) hv (ha X ca lev W C) (plain1 hp).2.2 (plain1 hp).1 (starEach_cons hs'.1) (noStar_any hs'.2)) fun σ H Q q => opn_pre q
end
end EV

namespace EV
open PySem PySem.Spec PyProof.Rows L2

/-! ### a def is called -/
theorem run_fnG {X : Cx} {W : WX} {k : Nat} {f : Addr} {fd : FuncData} {ps : List Str} {sp : Sp} {dvs : List V} {ds : List Value} {pins : List (Addr × Obj)} {σ : St} {H : Hp} {s : Shared} {Q : VK} {us : List Value} {vs : List V}
    (F : FnG X.prog X.w X.K X.mg X.base (CX X.prog X.w) k f fd ps sp) (hr : Rm k X.A) (hb : Binds X.K fd ps ds) (hd : Vals dvs ds) (tk : Takes X W) (I : Inv X pins σ H s) (r : Vals vs us)
    (h : sp (vs ++ dvs) H Q fun c d H' => W c d σ H') : wpAny (model X.prog X.w) X.A (call (.ref f) us) (EP X pins σ Q) X.xe s := by
  have r2 : Vals (vs ++ dvs) (us ++ ds) := r.append hd
  have hl : (us ++ ds).length = ps.length := r2.length ▸ F.len _ _ _ _ h
  have z := F.run X.A X.stack s H ⟨us, []⟩ (us ++ ds) (vs ++ dvs) Q _ hr I.env0 (hb s us I.kIn hl) r2 h
  refine wpAny_call (codeAny_mono z fun e s' hq => ?_)
  cases e with
  | error e => exact tk e s' (XE.of_call I (fun _ _ _ q => q) hq)
  | ok fl =>
    cases fl with
    | ret u => exact I.after hq
    | next => exact hq.elim
    | brk => exact hq.elim
    | cont => exact hq.elim

section
variable {pg : Pg} {N : List Str} {sc : Scope}
/-- from the arguments to the callee's promise -/
theorem call_sp {K : PySem.W.Frag} {W : WX} {ca : Ca} {k : Fk} {dfl : List D} {σ : St} {H H0 : Hp} {F : Hp} {m : List Addr} {S : Cells} {Q : VK} {ds : List D} {vs dvs : List V} {n : Nat} (w : Wd K F H m S) (hH : ∀ p, H p = none → H0 p = none)
    (q : Post K W σ F H m (ca k (ds ++ dfl) S) fun b _ F' H' m' => ∀ v, RepB K H0 F' H' m' b v → Q v H') (r : RepL K F m ds vs) (rd : RepL K F m dfl dvs) (hn : (vs ++ dvs).length = n) :
    spOf K ca k n (vs ++ dvs) H Q fun c d H' => W c d σ H' := by
  refine ⟨hn, ds ++ dfl, S, F, m, w, r.append rd, ?_⟩
  cases e : ca k (ds ++ dfl) S with
  | ok b S' =>
    rw [e] at q
    intro F' H' m' g v rb
    refine q F' H' m' g v ?_
    obtain ⟨d, o⟩ := b
    cases o with
    | false => exact rb
    | true =>
      obtain ⟨p, xs, ds, e1, e2, h0, hr⟩ := rb
      exact ⟨p, xs, ds, e1, e2, hH p h0, hr⟩
  | exn c d S' => rw [e] at q; exact q
  | no => rw [e] at q; exact q
theorem okCall {x : Str} {i : FnI} {e : Expr} {es : List Expr} {p pos : Pos} {a : SA} (hi : pg.fns.lookup x = some i) (hg : glB sc x = true) (hp : plainName x = true) (hs : (e :: es).all noStar = true)
    (h1 : (e :: es).length + i.dfl.length ≥ i.ps.length) (h2 : (e :: es).length ≤ i.ps.length) (ha : OkA pg N sc (e :: es) a) (hlen : ∀ ca ρ S ds S', a ca ρ S = .ok ds S' → ds.length = (e :: es).length) :
    OkE pg N sc (.Call (.Name x p) (e :: es) [] pos) (cCall (x, none) (i.dfl.drop ((e :: es).length + i.dfl.length - i.ps.length)) a) := fun X ca lev W C => by
  have hs' : noStar e = true ∧ es.all noStar = true := by simpa only [List.all_cons, Bool.and_eq_true] using hs
  obtain ⟨f, fd, hm, hk, G, hb⟩ := C.lib.fn x i hi
  obtain ⟨dvs, us0, rv, bn, rd⟩ := hb (e :: es).length h1 h2
  refine ⟨fun pins s σ H Q I h => ?_⟩
  obtain ⟨ρ, S, F, m, w, r, q⟩ := h
  refine wpAny_Call_Name_kw (ld_glob I (C.gl hg) hm ?_ (plain1 hp).1)
  have hA : tA X.K W (a ca) σ H fun vs H1 => spOf X.K ca (x, none) i.ps.length (vs ++ dvs) H1 Q fun c d H' => W c d σ H' := by
    refine ⟨ρ, S, F, m, w, r, Post.mono (Post.bind q) fun ds S1 F1 H1 m1 e1 g1 q1 vs rvs => ?_⟩
    refine call_sp g1.w (fun p h0 => g1.fresh h0) q1 rvs (rd F1 m1) ?_
    have l1 := hlen ca ρ S ds S1 e1
    have l2 := rvs.length
    have l3 := (rd F1 m1).length
    rw [List.length_drop] at l3
    rw [List.length_append]
    omega
  refine PySem.W.callWith_K (h₀ := X.base) I.ok.mod.kin hk (thn ((ha X ca lev W C).run pos pins s σ H _ I hA) fun us s1 ⟨vs, H1, I1, r1, q1⟩ => ⟨I1.kIn, ?_⟩) (starEach_cons hs'.1) (noStar_any hs'.2)
  exact run_fnG G C.room bn rv C.tk I1 r1 q1

/-! ### tests -/
def tNotT (f : ST) : ST := fun ca ρ S => (f ca ρ S).bind fun b S => .ok (!b) S
def tAndT (f g : ST) : ST := fun ca ρ S => (f ca ρ S).bind fun b S => match b with
  | true => g ca ρ S
  | false => .ok false S
def tOrT (f g : ST) : ST := fun ca ρ S => (f ca ρ S).bind fun b S => match b with
  | true => .ok true S
  | false => g ca ρ S
/-- the truth of a value -/
def tru : D → Option Bool
  | .non => some false
  | .bl b => some b
  | .int i => some (i != 0)
  | .str x => some ((x.length : Int) != 0)
  | .tup ds => some (!ds.isEmpty)
  | .lst ds => some (!ds.isEmpty)
  | _ => none
def tVal (f : SE) : ST := fun ca ρ S => (f ca ρ S).bind fun b S => match tru b.1 with
  | some k => .ok k S
  | none => .no
def OkW (pg : Pg) (N : List Str) (sc : Scope) (e : Expr) (f : ST) : Prop := ∀ X ca lev W, Ctx X sc N pg ca lev W → PW X e (tT X.K W (f ca))
theorem OkW.t {e : Expr} {f : ST} (h : OkW pg N sc e f) : OkT pg N sc e f := fun X ca lev W C => (h X ca lev W C).pt
theorem okTNot {a : Expr} {f : ST} {pos : Pos} (h : OkT pg N sc a f) : OkT pg N sc (.UnaryOp .Not a pos) (tNotT f) := fun X ca lev W C =>
  PT.imp (pt_not (h X ca lev W C)) fun σ H Q ⟨ρ, S, F, m, w, r, q⟩ => ⟨ρ, S, F, m, w, r, Post.mono (Post.bind q) fun b S1 F1 H1 m1 e1 g1 q1 => q1 F1 H1 m1 (Gr.refl g1.w)⟩
theorem okTAnd1 {a : Expr} {f : ST} {pos : Pos} (h : OkT pg N sc a f) : OkW pg N sc (.BoolOp .And [a] pos) f := fun X ca lev W C => pw_and1 (h X ca lev W C)
theorem okTOr1 {a : Expr} {f : ST} {pos : Pos} (h : OkT pg N sc a f) : OkW pg N sc (.BoolOp .Or [a] pos) f := fun X ca lev W C => pw_or1 (h X ca lev W C)
theorem okTAnd {a b : Expr} {es : List Expr} {f g : ST} {pos : Pos} (h : OkT pg N sc a f) (k : OkW pg N sc (.BoolOp .And (b :: es) pos) g) : OkW pg N sc (.BoolOp .And (a :: b :: es) pos) (tAndT f g) := fun X ca lev W C =>
  PW.imp (pw_and (h X ca lev W C) (k X ca lev W C)) fun σ H Q ⟨ρ, S, F, m, w, r, q⟩ => ⟨ρ, S, F, m, w, r, Post.mono (Post.bind q) fun b S1 F1 H1 m1 e1 g1 q1 => by
    cases b with
    | true => exact ⟨ρ, S1, F1, m1, g1.w, r.gr g1, q1⟩
    | false => exact q1 F1 H1 m1 (Gr.refl g1.w)⟩
theorem okTOr {a b : Expr} {es : List Expr} {f g : ST} {pos : Pos} (h : OkT pg N sc a f) (k : OkW pg N sc (.BoolOp .Or (b :: es) pos) g) : OkW pg N sc (.BoolOp .Or (a :: b :: es) pos) (tOrT f g) := fun X ca lev W C =>
  PW.imp (pw_or (h X ca lev W C) (k X ca lev W C)) fun σ H Q ⟨ρ, S, F, m, w, r, q⟩ => ⟨ρ, S, F, m, w, r, Post.mono (Post.bind q) fun b S1 F1 H1 m1 e1 g1 q1 => by
    cases b with
    | true => exact q1 F1 H1 m1 (Gr.refl g1.w)
    | false => exact ⟨ρ, S1, F1, m1, g1.w, r.gr g1, q1⟩⟩
theorem tru_sound {K : PySem.W.Frag} {F H : Hp} {m : List Addr} {d : D} {x : V} {k : Bool} (s : Sub F H) (r : Rep K F m d x) (h : tru d = some k) : TruV K x H k := by
  cases d with
  | non => simp only [Rep] at r; subst r; simp only [tru] at h; cases h; first | exact rfl | trivial
  | bl b => simp only [Rep] at r; subst r; simp only [tru] at h; cases h; first | exact rfl | trivial
  | int i => simp only [Rep] at r; subst r; simp only [tru] at h; cases h; first | exact rfl | trivial
  | str z =>
    simp only [Rep] at r; obtain ⟨rfl, hz, _⟩ := r; simp only [tru] at h; cases h
    first
      | exact rfl
      | exact ⟨hz, rfl⟩
  | tup ds =>
    simp only [Rep] at r; obtain ⟨p, xs, rfl, hq, hz, rl⟩ := r; simp only [tru] at h; cases h
    have e : (!ds.isEmpty) = !xs.isEmpty := by have := rl.length; cases ds <;> cases xs <;> simp_all
    rw [e]
    exact .inr (.inl ⟨xs, SqT.sub s hq, rfl⟩)
  | lst ds =>
    simp only [Rep] at r; obtain ⟨p, xs, rfl, hq, hz, rl⟩ := r; simp only [tru] at h; cases h
    have e : (!ds.isEmpty) = !xs.isEmpty := by have := rl.length; cases ds <;> cases xs <;> simp_all
    rw [e]
    exact .inl ⟨xs, SqL.of (s _ _ hq), rfl⟩
  | _ => simp only [tru] at h; cases h

def plainT : Expr → Bool
  | .UnaryOp .Not _ _ => false
  | .BoolOp .. => false
  | .IfExp .. => false
  | .Compare .. => false
  | _ => true
theorem isTrue_plainT {e : Expr} {env : Env} (h : plainT e = true) (whole : Sem Value) : isTrue e env whole = (do let v ← whole; standAt e.pos; holding [v] (truthy v)) := by
  cases e <;> first | rfl | cases h | (rename_i op _ _; cases op <;> first | rfl | cases h)
theorem okTVal {e : Expr} {f : SE} (hp : plainT e = true) (h : OkE pg N sc e f) : OkT pg N sc e (tVal f) := fun X ca lev W C =>
  PT.imp (pt_truth (h X ca lev W C) (isTrue_plainT hp)) fun σ H Q ⟨ρ, S, F, m, w, r, q⟩ => by
    refine tE.ofF w r (Post.mono (Post.bind q) fun b S1 F1 H1 m1 e1 g1 q1 x rx => ?_)
    cases t : tru b.1 with
    | none => rw [t] at q1; exact q1.elim
    | some k =>
      rw [t] at q1
      exact ⟨k, tru_sound g1.w.sub rx t, q1 F1 H1 m1 (Gr.refl g1.w)⟩
/-! ### comparisons -/
def tBl (f : SE) : ST := fun ca ρ S => (f ca ρ S).bind fun b S => match b.1 with
  | .bl k => .ok k S
  | _ => .no
theorem okCmp {a b : Expr} {op : CmpOp} {pos : Pos} {g : Cells → D → D → Option B} {fa fb : SE} (ho : ∀ X, Rm 0 X.A → OpR X (compareOp op) (rD2 X.K g)) (hm : behindInMarks op b = false) (ha : OkE pg N sc a fa) (hb : OkE pg N sc b fb) :
    OkE pg N sc (.Compare a [op] [b] pos) (cOp2 g fa fb) := fun X ca lev W C =>
  PE.imp (pe_cmpR (ho X (C.room.mono (Nat.zero_le _))) (ha X ca lev W C) (hb X ca lev W C) hm) fun σ H Q h => op2_pre h
theorem okTCmp {a b : Expr} {op : CmpOp} {pos : Pos} {g : Cells → D → D → Option B} {fa fb : SE} (ho : ∀ X, Rm 0 X.A → OpR X (compareOp op) (rD2 X.K g)) (hm : behindInMarks op b = false) (ha : OkE pg N sc a fa) (hb : OkE pg N sc b fb) :
    OkT pg N sc (.Compare a [op] [b] pos) (tBl (cOp2 g fa fb)) := fun X ca lev W C =>
  PT.imp (pt_cmpR (ho X (C.room.mono (Nat.zero_le _))) (ha X ca lev W C) (hb X ca lev W C) hm) fun σ H Q ⟨ρ, S, F, m, w, r, q⟩ => by
    refine op2_pre (W := W) ⟨ρ, S, F, m, w, r, Post.mono (Post.bind q) fun b S1 F1 H1 m1 e1 g1 q1 v rv => ?_⟩
    obtain ⟨d, o⟩ := b
    cases d with
    | bl k =>
      cases o with
      | false =>
        have rv' : Rep X.K F1 m1 (.bl k) v := rv
        simp only [Rep] at rv'
        exact ⟨k, rv', q1 F1 H1 m1 (Gr.refl g1.w)⟩
      | true =>
        obtain ⟨p, xs, ds, z, _⟩ := rv
        cases z
    | _ => exact q1.elim
/-- a op b op' c -/
def cChain (g g' : Cells → D → D → Option B) (fa fb fc : SE) : SE := fun ca ρ S => (fa ca ρ S).bind fun a S => (fb ca ρ S).bind fun b S =>
  match g S a.1 b.1 with
  | some (.bl true, false) => (fc ca ρ S).bind fun c S => lift (g' S b.1 c.1) S
  | some (.bl false, false) => .ok (.bl false, false) S
  | _ => .no
theorem chain_pre {X : Cx} {W : WX} {ca : Ca} {g g' : Cells → D → D → Option B} {fa fb fc : SE} {σ : St} {H : Hp} {Q : VK} (h : tE X.K W (cChain g g' fa fb fc ca) σ H Q) :
    tChain (rD2 X.K g) (rD2 X.K g') (tE X.K W (fa ca)) (tE X.K W (fb ca)) (tE X.K W (fc ca)) σ H Q := by
  obtain ⟨ρ, S, F, m, w, r, q⟩ := h
  refine tE.ofF w r (Post.mono (Post.bind q) fun b S1 F1 H1 m1 e1 g1 q1 x rx => ?_)
  refine tE.ofF g1.w (r.gr g1) (Post.mono (Post.bind q1) fun b2 S2 F2 H2 m2 e2 g2 q2 y ry => ?_)
  cases e : g S2 b.1 b2.1 with
  | none => rw [e] at q2; exact q2.elim
  | some z =>
    rw [e] at q2
    refine ⟨F2, m2, S2, b.1, b2.1, z, g2.w, rx.gr g2, ry, e, fun v F3 H3 m3 g3 r3 => ?_⟩
    obtain ⟨d, o⟩ := z
    cases d with
    | bl k =>
      cases o with
      | true => cases k <;> exact q2.elim
      | false =>
        have rv' : Rep X.K F3 m3 (.bl k) v := r3
        simp only [Rep] at rv'
        subst rv'
        refine ⟨k, rfl, ?_⟩
        have G := (g1.trans g2).trans g3
        cases k with
        | false =>
          rw [if_neg Bool.false_ne_true]
          exact q2 F3 H3 m3 g3 (.bl false) (by show Rep _ _ _ _ _; simp only [Rep])
        | true =>
          rw [if_pos rfl]
          have q3 : Post X.K W σ F2 H2 m2 ((fc ca ρ S2).bind fun c S => lift (g' S b2.1 c.1) S) _ := q2
          refine ⟨ρ, S2, F3, m3, g3.w, r.gr G, ?_⟩
          have q4 := Post.bind q3
          cases ec : fc ca ρ S2 with
          | no => rw [ec] at q4; exact q4
          | exn c d S4 => rw [ec] at q4; exact Wish.gr g3 q4
          | ok c S4 =>
            rw [ec] at q4
            intro F4 H4 m4 g4 v4 r4
            obtain ⟨F5, g5, _, r5⟩ := freeze g4 r4
            obtain ⟨bb, e3, o⟩ := post_lift (fun p h0 => ((g1.trans g2).trans (g3.trans g5)).fresh h0) (q4 F5 H4 m4 (g3.trans g5))
            exact ⟨F5, m4, S4, b2.1, c.1, bb, g5.w, ry.gr (g3.trans g5), r5, e3, o⟩
    | _ => exact q2.elim
theorem okChain {a b c : Expr} {op op' : CmpOp} {pos : Pos} {g g' : Cells → D → D → Option B} {fa fb fc : SE} (ho : ∀ X, Rm 0 X.A → OpR X (compareOp op) (rD2 X.K g)) (ho' : ∀ X, Rm 0 X.A → OpR X (compareOp op') (rD2 X.K g'))
    (hm : lastMarks [op, op'] [b, c] = false) (ha : OkE pg N sc a fa) (hb : OkE pg N sc b fb) (hc : OkE pg N sc c fc) : OkE pg N sc (.Compare a [op, op'] [b, c] pos) (cChain g g' fa fb fc) := fun X ca lev W C =>
  PE.imp (pe_chain (ho X (C.room.mono (Nat.zero_le _))) (ho' X (C.room.mono (Nat.zero_le _))) (ha X ca lev W C) (hb X ca lev W C) (hc X ca lev W C) hm) fun σ H Q h => chain_pre h
theorem bl_of {K : PySem.W.Frag} {W : WX} {σ : St} {F H : Hp} {m : List Addr} {S : Cells} {ρ : En} {f : SE} {ca : Ca} {Q : Bool → Hp → Prop} (w : Wd K F H m S) (r : REnv K F m ρ σ) (q : Post K W σ F H m (tBl f ca ρ S) fun b _ _ H' _ => Q b H') :
    tE K W (f ca) σ H fun x H' => ∃ k, x = .bl k ∧ Q k H' := by
  refine ⟨ρ, S, F, m, w, r, Post.mono (Post.bind q) fun b S1 F1 H1 m1 e1 g1 q1 v rv => ?_⟩
  obtain ⟨d, o⟩ := b
  cases d with
  | bl k =>
    cases o with
    | false =>
      have rv' : Rep K F1 m1 (.bl k) v := rv
      simp only [Rep] at rv'
      exact ⟨k, rv', q1 F1 H1 m1 (Gr.refl g1.w)⟩
    | true =>
      obtain ⟨p, xs, ds, z, _⟩ := rv
      cases z
  | _ => exact q1.elim
theorem okTChain {a b c : Expr} {op op' : CmpOp} {pos : Pos} {g g' : Cells → D → D → Option B} {fa fb fc : SE} (ho : ∀ X, Rm 0 X.A → OpR X (compareOp op) (rD2 X.K g)) (ho' : ∀ X, Rm 0 X.A → OpR X (compareOp op') (rD2 X.K g'))
    (hm : lastMarks [op, op'] [b, c] = false) (ha : OkE pg N sc a fa) (hb : OkE pg N sc b fb) (hc : OkE pg N sc c fc) : OkT pg N sc (.Compare a [op, op'] [b, c] pos) (tBl (cChain g g' fa fb fc)) := fun X ca lev W C =>
  PT.imp (pt_chain (ho X (C.room.mono (Nat.zero_le _))) (ho' X (C.room.mono (Nat.zero_le _))) (ha X ca lev W C) (hb X ca lev W C) (hc X ca lev W C) hm) fun σ H Q ⟨ρ, S, F, m, w, r, q⟩ => chain_pre (bl_of w r q)
/-! ### a if t else b; and, or, not as values -/
def cIf (t : ST) (f g : SE) : SE := fun ca ρ S => (t ca ρ S).bind fun b S => match b with
  | true => f ca ρ S
  | false => g ca ρ S
theorem post_base {K : PySem.W.Frag} {W : WX} {σ : St} {F H H0 : Hp} {m : List Addr} {r : R B} {Q : VK} (hH : ∀ p, H p = none → H0 p = none)
    (h : Post K W σ F H m r fun b _ F' H' m' => ∀ v, RepB K H0 F' H' m' b v → Q v H') : Post K W σ F H m r fun b _ F' H' m' => ∀ v, RepB K H F' H' m' b v → Q v H' :=
  Post.mono h fun b S1 F1 H1 m1 e1 g1 q1 v rv => q1 v (by
    obtain ⟨d, o⟩ := b
    cases o with
    | false => exact rv
    | true =>
      obtain ⟨p, xs, ds, e1, e2, h0, hr⟩ := rv
      exact ⟨p, xs, ds, e1, e2, hH p h0, hr⟩)
theorem okIf {c a b : Expr} {t : ST} {f g : SE} {pos : Pos} (hc : OkT pg N sc c t) (ha : OkE pg N sc a f) (hb : OkE pg N sc b g) : OkE pg N sc (.IfExp c a b pos) (cIf t f g) := fun X ca lev W C =>
  PE.imp (pe_ifExp (hc X ca lev W C) (ha X ca lev W C) (hb X ca lev W C)) fun σ H Q ⟨ρ, S, F, m, w, r, q⟩ => ⟨ρ, S, F, m, w, r, Post.mono (Post.bind q) fun b S1 F1 H1 m1 e1 g1 q1 => by
    have q2 := post_base (fun p h0 => g1.fresh h0) q1
    cases b with
    | true => exact ⟨ρ, S1, F1, m1, g1.w, r.gr g1, q2⟩
    | false => exact ⟨ρ, S1, F1, m1, g1.w, r.gr g1, q2⟩⟩
def cAnd (f g : SE) : SE := fun ca ρ S => (f ca ρ S).bind fun b S => match b.1 with
  | .bl true => g ca ρ S
  | .bl false => .ok (.bl false, false) S
  | _ => .no
def cOr (f g : SE) : SE := fun ca ρ S => (f ca ρ S).bind fun b S => match b.1 with
  | .bl true => .ok (.bl true, false) S
  | .bl false => g ca ρ S
  | _ => .no
def gNot (_ : Cells) : D → Option B
  | .bl b => some (.bl (!b), false)
  | _ => none
theorem okAnd1 {a : Expr} {f : SE} {op : BoolOp} {pos : Pos} (h : OkE pg N sc a f) : OkE pg N sc (.BoolOp op [a] pos) f := fun X ca lev W C => pe_one (h X ca lev W C)
theorem okAnd {a b : Expr} {es : List Expr} {f g : SE} {pos : Pos} (ha : OkE pg N sc a f) (hb : OkE pg N sc (.BoolOp .And (b :: es) pos) g) : OkE pg N sc (.BoolOp .And (a :: b :: es) pos) (cAnd f g) := fun X ca lev W C =>
  PE.imp (pe_and (ha X ca lev W C) (hb X ca lev W C)) fun σ H Q ⟨ρ, S, F, m, w, r, q⟩ => by
    refine tE.ofF w r (Post.mono (Post.bind q) fun b S1 F1 H1 m1 e1 g1 q1 x rx => ?_)
    obtain ⟨d, o⟩ := b
    cases d with
    | bl k =>
      simp only [Rep] at rx
      refine ⟨k, rx, ?_⟩
      cases k with
      | true => rw [if_pos rfl]; exact ⟨ρ, S1, F1, m1, g1.w, r.gr g1, post_base (fun p h0 => g1.fresh h0) q1⟩
      | false => rw [if_neg Bool.false_ne_true]; exact q1 F1 H1 m1 (Gr.refl g1.w) _ (by show Rep _ _ _ _ _; simp only [Rep])
    | _ => exact q1.elim
theorem okOr {a b : Expr} {es : List Expr} {f g : SE} {pos : Pos} (ha : OkE pg N sc a f) (hb : OkE pg N sc (.BoolOp .Or (b :: es) pos) g) : OkE pg N sc (.BoolOp .Or (a :: b :: es) pos) (cOr f g) := fun X ca lev W C =>
  PE.imp (pe_or (ha X ca lev W C) (hb X ca lev W C)) fun σ H Q ⟨ρ, S, F, m, w, r, q⟩ => by
    refine tE.ofF w r (Post.mono (Post.bind q) fun b S1 F1 H1 m1 e1 g1 q1 x rx => ?_)
    obtain ⟨d, o⟩ := b
    cases d with
    | bl k =>
      simp only [Rep] at rx
      refine ⟨k, rx, ?_⟩
      cases k with
      | true => rw [if_pos rfl]; exact q1 F1 H1 m1 (Gr.refl g1.w) _ (by show Rep _ _ _ _ _; simp only [Rep])
      | false => rw [if_neg Bool.false_ne_true]; exact ⟨ρ, S1, F1, m1, g1.w, r.gr g1, post_base (fun p h0 => g1.fresh h0) q1⟩
    | _ => exact q1.elim
theorem okNot {a : Expr} {f : SE} {pos : Pos} (ha : OkE pg N sc a f) : OkE pg N sc (.UnaryOp .Not a pos) (cOp1 gNot f) := fun X ca lev W C =>
  PE.imp (pe_not (ha X ca lev W C)) fun σ H Q ⟨ρ, S, F, m, w, r, q⟩ => by
    refine tE.ofF w r (Post.mono (Post.bind q) fun b S1 F1 H1 m1 e1 g1 q1 x rx => ?_)
    obtain ⟨d, o⟩ := b
    cases d with
    | bl k =>
      simp only [Rep] at rx
      exact ⟨k, rx, q1 F1 H1 m1 (Gr.refl g1.w) _ (by show Rep _ _ _ _ _; simp only [Rep])⟩
    | _ => exact q1.elim
end
end EV

namespace EV
open PySem PySem.Spec PyProof.Rows L2

/-! ### data as PyData -/
mutual
def toP : D → PyData
  | .bl b => .bool b
  | .int i => .int i
  | .str x => .str x
  | .tup ds => .tuple (toPL ds)
  | .lst ds => .list (toPL ds)
  | _ => .none
def toPL : List D → List PyData
  | [] => []
  | d :: ds => toP d :: toPL ds
end
mutual
def pln : D → Bool
  | .non => true
  | .bl _ => true
  | .int _ => true
  | .str _ => true
  | .tup ds => plnL ds
  | .lst ds => plnL ds
  | _ => false
def plnL : List D → Bool
  | [] => true
  | d :: ds => pln d && plnL ds
end
mutual
theorem Dp.of {K : PySem.W.Frag} {F H : Hp} {m : List Addr} (s : Sub F H) : ∀ (d : D) (x : V), pln d = true → Rep K F m d x → Dp K H x (toP d)
  | .non, x, _, r => by simp only [Rep] at r; subst r; simp only [toP]; exact .non
  | .bl b, x, _, r => by simp only [Rep] at r; subst r; simp only [toP]; exact .bl b
  | .int i, x, _, r => by simp only [Rep] at r; subst r; simp only [toP]; exact .int i
  | .str z, x, _, r => by simp only [Rep] at r; obtain ⟨rfl, _⟩ := r; simp only [toP]; exact .str z
  | .tup ds, x, p, r => by
    simp only [Rep] at r; simp only [pln] at p; simp only [toP]
    obtain ⟨a, xs, rfl, h, _, rl⟩ := r
    exact .tup (SqT.sub s h) (DpAll.of s ds xs p rl)
  | .lst ds, x, p, r => by
    simp only [Rep] at r; simp only [pln] at p; simp only [toP]
    obtain ⟨a, xs, rfl, h, _, rl⟩ := r
    exact .lst (SqL.of (s _ _ h)) (DpAll.of s ds xs p rl)
  | .dic .., x, p, r => by simp only [pln] at p; cases p
  | .ins .., x, p, r => by simp only [pln] at p; cases p
  | .exc .., x, p, r => by simp only [pln] at p; cases p
  | .cel .., x, p, r => by simp only [pln] at p; cases p
  | .scr .., x, p, r => by simp only [pln] at p; cases p
theorem DpAll.of {K : PySem.W.Frag} {F H : Hp} {m : List Addr} (s : Sub F H) : ∀ (ds : List D) (xs : List V), plnL ds = true → RepL K F m ds xs → DpAll K H xs (toPL ds)
  | [], xs, _, r => by simp only [RepL] at r; subst r; simp only [toPL]; exact .nil
  | d :: ds, xs, p, r => by
    simp only [RepL] at r; simp only [plnL, Bool.and_eq_true] at p; simp only [toPL]
    obtain ⟨x, ys, rfl, r1, r2⟩ := r
    exact .cons (Dp.of s d x p.1 r1) (DpAll.of s ds ys p.2 r2)
end
mutual
theorem canLay_toP {K : PySem.W.Frag} {F : Hp} {m : List Addr} : ∀ (d : D) (x : V), Rep K F m d x → (toP d).canLay0 = true
  | .non, _, _ => by simp only [toP]; rfl
  | .bl b, _, _ => by simp only [toP]; rfl
  | .int i, _, _ => by simp only [toP]; rfl
  | .str z, _, r => by simp only [Rep] at r; simp only [toP, PyData.canLay0]; exact r.2.2
  | .tup ds, _, r => by simp only [Rep] at r; obtain ⟨_, xs, _, _, _, r⟩ := r; simp only [toP, PyData.canLay0]; exact canLay_toPL ds xs r
  | .lst ds, _, r => by simp only [Rep] at r; obtain ⟨_, xs, _, _, _, r⟩ := r; simp only [toP, PyData.canLay0]; exact canLay_toPL ds xs r
  | .dic .., _, _ => by simp only [toP]; rfl
  | .ins .., _, _ => by simp only [toP]; rfl
  | .exc .., _, _ => by simp only [toP]; rfl
  | .cel .., _, _ => by simp only [toP]; rfl
  | .scr .., _, _ => by simp only [toP]; rfl
theorem canLay_toPL {K : PySem.W.Frag} {F : Hp} {m : List Addr} : ∀ (ds : List D) (xs : List V), RepL K F m ds xs → PyData.canLayAll0 (toPL ds) = true
  | [], _, _ => by simp only [toPL]; rfl
  | d :: ds, _, r => by
    simp only [RepL] at r
    obtain ⟨x, xs, _, r1, r2⟩ := r
    simp only [toPL, PyData.canLayAll0, canLay_toP d x r1, canLay_toPL ds xs r2]; rfl
end
def eqS (a b : D) : Bool := PyData.eqv (toP a) (toP b)
def flatD (d : D) : Bool := decide ((toP d).depth ≤ 100)
theorem rep_bl {K : PySem.W.Frag} {F : Hp} {m : List Addr} (b : Bool) : Rep K F m (.bl b) (.bl b) := by simp only [Rep]
theorem rep_int {K : PySem.W.Frag} {F : Hp} {m : List Addr} (b : Int) : Rep K F m (.int b) (.int b) := by simp only [Rep]
def bB (b : Bool) : Option B := some (.bl b, false)
def bI (i : Int) : Option B := some (.int i, false)
def dEq (_ : Cells) (a b : D) : Option B := if pln a && pln b && (flatD a || flatD b) then bB (eqS a b) else none
def dNe (_ : Cells) (a b : D) : Option B := if pln a && pln b && (flatD a || flatD b) then bB (!eqS a b) else none
section
variable {X : Cx}
theorem room_eq {k : Nat} {A : Around} {a b : D} (r : Rm k A) (h : (flatD a || flatD b) = true) : A.units + min (toP a).depth (toP b).depth < cLine := by
  have h1 := r.rm.un
  simp only [flatD, Bool.or_eq_true, decide_eq_true_eq] at h
  omega
theorem opEq (r : Rm 0 X.A) : OpR X (compareOp .Eq) (rD2 X.K dEq) := by
  intro pins s σ H x y v u Q I rx ry h
  obtain ⟨F, m, S, d, e, b, w, r1, r2, he, o⟩ := h
  unfold dEq at he
  split at he
  · rename_i hc
    simp only [Bool.and_eq_true] at hc
    obtain ⟨as, q1⟩ := Dp.reads I _ x v (Dp.of w.sub d x hc.1.1 r1) rx
    obtain ⟨bs, q2⟩ := Dp.reads I _ y u (Dp.of w.sub e y hc.1.2 r2) ry
    cases he
    exact SeqAt.compareEq_reads q1 q2 (canLay_toP d x r1) (canLay_toP e y r2) (room_eq r hc.2) ⟨.bl _, H, I, rfl, o.val w (rep_bl _)⟩
  · cases he
theorem opNe (r : Rm 0 X.A) : OpR X (compareOp .NotEq) (rD2 X.K dNe) := by
  intro pins s σ H x y v u Q I rx ry h
  obtain ⟨F, m, S, d, e, b, w, r1, r2, he, o⟩ := h
  unfold dNe at he
  split at he
  · rename_i hc
    simp only [Bool.and_eq_true] at hc
    obtain ⟨as, q1⟩ := Dp.reads I _ x v (Dp.of w.sub d x hc.1.1 r1) rx
    obtain ⟨bs, q2⟩ := Dp.reads I _ y u (Dp.of w.sub e y hc.1.2 r2) ry
    cases he
    exact SeqAt.compareNe_reads q1 q2 (canLay_toP d x r1) (canLay_toP e y r2) (room_eq r hc.2) ⟨.bl _, H, I, rfl, o.val w (rep_bl _)⟩
  · cases he
/-! ### in -/
def anyEq (x : D) (ds : List D) : Bool := ds.any fun z => eqS z x
theorem anyEq_toPL (x : D) : ∀ ds : List D, (toPL ds).any (fun z => PyData.eqv z (toP x)) = anyEq x ds
  | [] => by simp only [toPL, anyEq, List.any_nil]
  | d :: ds => by
    have ih := anyEq_toPL x ds
    simp only [toPL, anyEq, List.any_cons] at ih ⊢
    rw [ih]; rfl
def strIn (y i : Str) : Bool := !(Builtin.Str.occurrences y i 0 y.length 1).isEmpty
def isIn (x c : D) : Option Bool := match c with
  | .lst ds => if pln x && plnL ds && flatD x then some (anyEq x ds) else none
  | .tup ds => if pln x && plnL ds && flatD x then some (anyEq x ds) else none
  | .str y => (match x with
    | .str i => some (strIn y i)
    | _ => none)
  | _ => none
def dIn (_ : Cells) (x c : D) : Option B := (isIn x c).bind fun b => bB b
def dNotIn (_ : Cells) (x c : D) : Option B := (isIn x c).bind fun b => bB (!b)
theorem room_in {k : Nat} {A : Around} {a : D} {xs : List PyData} (r : Rm k A) (h : flatD a = true) : A.units + 1 + min (PyData.depthAll xs) (toP a).depth < cLine := by
  have h1 := r.rm.un
  simp only [flatD, decide_eq_true_eq] at h
  omega
theorem in_core {x c : V} {d e : D} {K : PySem.W.Frag} {F H : Hp} {m : List Addr} {neg : Bool} (r : Rm 0 X.A) {pins : List (Addr × Obj)} {s : Shared} {σ : St} {v u : Value} {Q : VK} (hK : X.K = K) (I : Inv X pins σ H s) (rx : RelV x v) (ry : RelV c u)
    (sb : Sub F H) (r1 : Rep K F m d x) (r2 : Rep K F m e c) {k : Bool} (hk : isIn d e = some k) (q : Q (.bl (if neg then !k else k)) H) : wpAny (model X.prog X.w) X.A (compareOp (if neg then .NotIn else .In) v u) (EP X pins σ Q) X.xe s := by
  subst hK
  unfold isIn at hk
  split at hk
  · rename_i ds
    split at hk
    · rename_i hc
      simp only [Bool.and_eq_true] at hc
      cases hk
      obtain ⟨as, q1⟩ := Dp.reads I _ x v (Dp.of sb d x hc.1.1 r1) rx
      obtain ⟨bs, q2⟩ := Dp.reads I _ c u (Dp.of sb (.lst ds) c (by simp only [pln]; exact hc.1.2) r2) ry
      simp only [toP] at q2
      have hl : (PyData.list (toPL ds)).canLay0 = true := by have := canLay_toP _ c r2; simpa only [toP] using this
      rw [← anyEq_toPL] at q
      cases neg with
      | false => exact SeqAt.in_list_reads q2 q1 hl (canLay_toP d x r1) (room_in r hc.2) ⟨.bl _, H, I, rfl, q⟩
      | true => exact SeqAt.notIn_list_reads q2 q1 hl (canLay_toP d x r1) (room_in r hc.2) ⟨.bl _, H, I, rfl, q⟩
    · cases hk
  · rename_i ds
    split at hk
    · rename_i hc
      simp only [Bool.and_eq_true] at hc
      cases hk
      obtain ⟨as, q1⟩ := Dp.reads I _ x v (Dp.of sb d x hc.1.1 r1) rx
      obtain ⟨bs, q2⟩ := Dp.reads I _ c u (Dp.of sb (.tup ds) c (by simp only [pln]; exact hc.1.2) r2) ry
      simp only [toP] at q2
      have hl : (PyData.tuple (toPL ds)).canLay0 = true := by have := canLay_toP _ c r2; simpa only [toP] using this
      rw [← anyEq_toPL] at q
      cases neg with
      | false => exact SeqAt.in_tuple_reads q2 q1 hl (canLay_toP d x r1) (room_in r hc.2) ⟨.bl _, H, I, rfl, q⟩
      | true => exact SeqAt.notIn_tuple_reads q2 q1 hl (canLay_toP d x r1) (room_in r hc.2) ⟨.bl _, H, I, rfl, q⟩
    · cases hk
  · rename_i y
    split at hk
    · rename_i i
      cases hk
      simp only [Rep] at r1 r2
      obtain ⟨rfl, _⟩ := r1
      obtain ⟨rfl, _⟩ := r2
      cases neg with
      | false => exact op_in_str pins s σ H _ _ v u Q I rx ry ⟨i, y, rfl, rfl, q⟩
      | true => exact L2.op_notin_str pins s σ H _ _ v u Q I rx ry ⟨i, y, rfl, rfl, q⟩
    · cases hk
  · cases hk
theorem opIn (r : Rm 0 X.A) : OpR X (compareOp .In) (rD2 X.K dIn) := by
  intro pins s σ H x y v u Q I rx ry h
  obtain ⟨F, m, S, d, e, b, w, r1, r2, he, o⟩ := h
  unfold dIn at he
  cases hk : isIn d e with
  | none => rw [hk] at he; cases he
  | some k =>
    rw [hk] at he; cases he
    exact in_core (neg := false) r rfl I rx ry w.sub r1 r2 hk (o.val w (rep_bl _))
theorem opNotIn (r : Rm 0 X.A) : OpR X (compareOp .NotIn) (rD2 X.K dNotIn) := by
  intro pins s σ H x y v u Q I rx ry h
  obtain ⟨F, m, S, d, e, b, w, r1, r2, he, o⟩ := h
  unfold dNotIn at he
  cases hk : isIn d e with
  | none => rw [hk] at he; cases he
  | some k =>
    rw [hk] at he; cases he
    exact in_core (neg := true) r rfl I rx ry w.sub r1 r2 hk (o.val w (rep_bl _))
/-! ### is -/
def isD : D → D → Option Bool
  | .non, .non => some true
  | _, .non => some false
  | .bl a, .bl b => some (decide (a = b))
  | _, _ => none
def dIs (_ : Cells) (a b : D) : Option B := (isD a b).bind fun k => bB k
def dIsNot (_ : Cells) (a b : D) : Option B := (isD a b).bind fun k => bB (!k)
theorem non_iff {K : PySem.W.Frag} {F : Hp} {m : List Addr} {d : D} {x : V} (r : Rep K F m d x) : x = .non ↔ d = .non := by
  constructor
  · intro e
    subst e
    cases d with
    | non => rfl
    | bl => simp only [Rep] at r; cases r
    | int => simp only [Rep] at r; cases r
    | str => simp only [Rep] at r; exact nomatch r.1
    | tup => simp only [Rep] at r; obtain ⟨_, _, e, _⟩ := r; cases e
    | lst => simp only [Rep] at r; obtain ⟨_, _, e, _⟩ := r; cases e
    | dic => simp only [Rep] at r; obtain ⟨_, _, e, _⟩ := r; cases e
    | ins => simp only [Rep] at r; obtain ⟨_, _, _, e, _⟩ := r; cases e
    | exc => simp only [Rep] at r; obtain ⟨_, _, _, e, _⟩ := r; cases e
    | cel => simp only [Rep] at r; obtain ⟨_, _, e⟩ := r; cases e
    | scr => simp only [Rep] at r; obtain ⟨_, e, _⟩ := r; cases e
  · rintro rfl
    simpa only [Rep] using r
theorem is_shape {d e : D} {k : Bool} (h : isD d e = some k) : (e = .non ∧ (k = true ↔ d = .non)) ∨ ∃ a b, d = .bl a ∧ e = .bl b ∧ k = decide (a = b) := by
  unfold isD at h
  split at h
  · cases h; exact .inl ⟨rfl, by simp⟩
  · rename_i hd
    cases h; exact .inl ⟨rfl, by simp only [Bool.false_eq_true, false_iff]; exact hd⟩
  · cases h; exact .inr ⟨_, _, rfl, rfl, rfl⟩
  · cases h
theorem opIs (r : Rm 0 X.A) : OpR X (compareOp .Is) (rD2 X.K dIs) := by
  refine OpR.imp (op_isN.or op_isBl) fun x y H Q ⟨F, m, S, d, e, b, w, r1, r2, he, o⟩ => ?_
  unfold dIs at he
  cases hk : isD d e with
  | none => rw [hk] at he; cases he
  | some k =>
    rw [hk] at he; cases he
    have fin := o.val w (v := .bl k) (rep_bl _)
    rcases is_shape hk with ⟨rfl, z⟩ | ⟨a, b, rfl, rfl, rfl⟩
    · refine .inl ⟨by simpa only [Rep] using r2, ?_⟩
      have e1 : decide (x = .non) = k := by
        cases k with
        | true => exact decide_eq_true ((non_iff r1).mpr (z.mp rfl))
        | false => exact decide_eq_false fun q => by have := z.mpr ((non_iff r1).mp q); cases this
      rw [e1]; exact fin
    · simp only [Rep] at r1 r2
      exact .inr ⟨a, b, r1, r2, fin⟩
theorem opIsNot (r : Rm 0 X.A) : OpR X (compareOp .IsNot) (rD2 X.K dIsNot) := by
  refine OpR.imp (op_notN.or op_notBl) fun x y H Q ⟨F, m, S, d, e, b, w, r1, r2, he, o⟩ => ?_
  unfold dIsNot at he
  cases hk : isD d e with
  | none => rw [hk] at he; cases he
  | some k =>
    rw [hk] at he; cases he
    have fin := o.val w (v := .bl (!k)) (rep_bl _)
    rcases is_shape hk with ⟨rfl, z⟩ | ⟨a, b, rfl, rfl, rfl⟩
    · refine .inl ⟨by simpa only [Rep] using r2, ?_⟩
      have e1 : decide (x = .non) = k := by
        cases k with
        | true => exact decide_eq_true ((non_iff r1).mpr (z.mp rfl))
        | false => exact decide_eq_false fun q => by have := z.mpr ((non_iff r1).mp q); cases this
      rw [e1]; exact fin
    · simp only [Rep] at r1 r2
      exact .inr ⟨a, b, r1, r2, fin⟩
end
end EV

namespace EV
open PySem PySem.Spec PyProof.Rows L2

/-! ### arithmetic -/
def dInt (C : Int → Int → Bool) (g : Int → Int → Int) (_ : Cells) (a b : D) : Option B := match a, b with
  | .int i, .int j => if C i j then bI (g i j) else none
  | _, _ => none
section
variable {X : Cx}
theorem opInt {f : Value → Value → Sem Value} {C : Int → Int → Bool} {P : Int → Int → Prop} {g : Int → Int → Int} (h : OpR X f (rI P fun i j => .int (g i j))) (hC : ∀ i j, C i j = true → P i j) : OpR X f (rD2 X.K (dInt C g)) := by
  refine OpR.imp h fun x y H Q ⟨F, m, S, d, e, b, w, r1, r2, he, o⟩ => ?_
  unfold dInt at he
  split at he
  · rename_i i j
    split at he
    · rename_i hc
      cases he
      simp only [Rep] at r1 r2
      exact ⟨i, j, r1, r2, hC i j hc, o.val w (rep_int _)⟩
    · cases he
  · cases he
theorem opInt0 {f : Value → Value → Sem Value} {g : Int → Int → Int} (h : OpR X f (rI0 fun i j => .int (g i j))) : OpR X f (rD2 X.K (dInt (fun _ _ => true) g)) := by
  refine OpR.imp h fun x y H Q ⟨F, m, S, d, e, b, w, r1, r2, he, o⟩ => ?_
  unfold dInt at he
  split at he
  · rename_i i j
    cases he
    simp only [Rep] at r1 r2
    exact ⟨i, j, r1, r2, o.val w (rep_int _)⟩
  · cases he
def dCmp (g : Int → Int → Bool) (_ : Cells) (a b : D) : Option B := match a, b with
  | .int i, .int j => bB (g i j)
  | _, _ => none
theorem opCmp {f : Value → Value → Sem Value} {g : Int → Int → Bool} (h : OpR X f (rI0 fun i j => .bl (g i j))) : OpR X f (rD2 X.K (dCmp g)) := by
  refine OpR.imp h fun x y H Q ⟨F, m, S, d, e, b, w, r1, r2, he, o⟩ => ?_
  unfold dCmp at he
  split at he
  · rename_i i j
    cases he
    simp only [Rep] at r1 r2
    exact ⟨i, j, r1, r2, o.val w (rep_bl _)⟩
  · cases he
def dLt := dCmp fun i j => decide (i < j)
def dLe := dCmp fun i j => decide (i ≤ j)
def dGt := dCmp fun i j => decide (j < i)
def dGe := dCmp fun i j => decide (j ≤ i)
theorem opLt (r : Rm 0 X.A) : OpR X (compareOp .Lt) (rD2 X.K dLt) := opCmp op_lt
theorem opLe (r : Rm 0 X.A) : OpR X (compareOp .LtE) (rD2 X.K dLe) := opCmp op_le
theorem opGt (r : Rm 0 X.A) : OpR X (compareOp .Gt) (rD2 X.K dGt) := opCmp op_gt
theorem opGe (r : Rm 0 X.A) : OpR X (compareOp .GtE) (rD2 X.K dGe) := opCmp op_ge

theorem cpOk_append {x y : Str} (hx : cpOk x = true) (hy : cpOk y = true) : cpOk (x ++ y) = true := by
  unfold cpOk at *
  show (x.cps ++ y.cps).all _ = true
  rw [Array.all_append, hx, hy]; rfl
def dAdd (_ : Cells) (a b : D) : Option B := match a, b with
  | .int i, .int j => bI (i + j)
  | .str x, .str y => if x.length + y.length ≤ 16777216 then some (.str (x ++ y), false) else none
  | .lst xs, .lst ys => if xs.length + ys.length ≤ 16777216 then some (.lst (xs ++ ys), true) else none
  | .tup xs, .tup ys => if xs.length + ys.length ≤ 16777216 then some (.tup (xs ++ ys), false) else none
  | _, _ => none
theorem length_str_append (x y : Str) : (x ++ y).length = x.length + y.length := by
  show (x.cps ++ y.cps).size = _
  rw [Array.size_append]; rfl
theorem opAdd : OpR X (binaryOp .Add) (rD2 X.K dAdd) := by
  refine OpR.imp (op_add.or (op_add_str.or (op_cat.or op_catA))) fun x y H Q ⟨F, m, S, d, e, b, w, r1, r2, he, o⟩ => ?_
  unfold dAdd at he
  split at he
  · rename_i i j
    cases he
    simp only [Rep] at r1 r2
    exact .inl ⟨i, j, r1, r2, o.val w (rep_int _)⟩
  · rename_i i j
    split at he
    · rename_i hl
      cases he
      simp only [Rep] at r1 r2
      obtain ⟨rfl, h1, h2⟩ := r1
      obtain ⟨rfl, h3, h4⟩ := r2
      refine .inr (.inl ⟨i, j, rfl, rfl, by rw [line24]; exact hl, o.val w ?_⟩)
      simp only [Rep]
      exact ⟨trivial, by rw [length_str_append, line24]; exact hl, cpOk_append h2 h4⟩
    · cases he
  · rename_i xs ys
    split at he
    · rename_i hl
      cases he
      simp only [Rep] at r1 r2
      obtain ⟨p, us, rfl, h1, h2, h3⟩ := r1
      obtain ⟨q, vs, rfl, h4, h5, h6⟩ := r2
      have l1 := h3.length
      have l2 := h6.length
      have hz : (us ++ vs).length ≤ sizeLine := by rw [List.length_append, line24]; omega
      refine .inr (.inr (.inl ⟨p, q, us, vs, rfl, rfl, w.sub _ _ h1, w.sub _ _ h4, by rw [line24]; omega, fun a ha => ?_⟩))
      exact Outs.lst w o (h3.append h6) hz a ha
    · cases he
  · rename_i xs ys
    split at he
    · rename_i hl
      cases he
      simp only [Rep] at r1 r2
      obtain ⟨p, us, rfl, h1, h2, h3⟩ := r1
      obtain ⟨q, vs, rfl, h4, h5, h6⟩ := r2
      have l1 := h3.length
      have l2 := h6.length
      have hz : (us ++ vs).length ≤ sizeLine := by rw [List.length_append, line24]; omega
      refine .inr (.inr (.inr ⟨p, q, us, vs, rfl, rfl, SqT.sub w.sub h1, SqT.sub w.sub h4, by rw [line24]; omega, fun e => ?_, fun _ e => ?_, fun _ _ a ha => ?_⟩))
      · subst e
        have e' : xs = [] := List.length_eq_zero_iff.mp l1
        subst e'
        refine o.val w ?_
        simp only [Rep]
        exact ⟨q, vs, rfl, h4, h5, h6⟩
      · subst e
        have e' : ys = [] := List.length_eq_zero_iff.mp l2
        subst e'
        refine o.val w ?_
        rw [List.append_nil]
        simp only [Rep]
        exact ⟨p, us, rfl, h1, h2, h3⟩
      · exact Outs.tup w o (h3.append h6) hz a ha
    · cases he
  · cases he
def dSub := dInt (fun _ _ => true) fun i j => i - j
theorem opSub : OpR X (binaryOp .Sub) (rD2 X.K dSub) := opInt0 op_sub
def small64i (i : Int) : Bool := decide (-(2 ^ 64) < i) && decide (i < 2 ^ 64)
def mulOk (i j : Int) : Bool := small64i i || small64i j
def dMul (_ : Cells) (a b : D) : Option B := match a, b with
  | .int i, .int j => if mulOk i j then bI (i * j) else none
  | .lst xs, .int k => if decide (-(2 ^ 63) ≤ k) && decide (k < 2 ^ 63) && decide (xs.length * k.toNat ≤ 16777216) then some (.lst (List.replicate k.toNat xs).flatten, true) else none
  | _, _ => none
theorem RepL.rep {K : PySem.W.Frag} {H : Hp} {m : List Addr} {ds : List D} {vs : List V} (r : RepL K H m ds vs) : ∀ k : Nat, RepL K H m (List.replicate k ds).flatten (List.replicate k vs).flatten
  | 0 => .nil
  | k + 1 => by
    rw [List.replicate_succ, List.replicate_succ, List.flatten_cons, List.flatten_cons]
    exact r.append (RepL.rep r k)
theorem opMul : OpR X (binaryOp .Mult) (rD2 X.K dMul) := by
  refine OpR.imp (op_mul.or op_rep) fun x y H Q ⟨F, m, S, d, e, b, w, r1, r2, he, o⟩ => ?_
  unfold dMul at he
  split at he
  · rename_i i j
    split at he
    · rename_i hc
      cases he
      simp only [Rep] at r1 r2
      refine .inl ⟨i, j, r1, r2, ?_, o.val w (rep_int _)⟩
      simp only [mulOk, small64i, Bool.or_eq_true, Bool.and_eq_true, decide_eq_true_eq] at hc
      exact hc
    · cases he
  · rename_i xs k
    split at he
    · rename_i hc
      cases he
      simp only [Rep] at r1 r2
      obtain ⟨p, us, rfl, h1, h2, h3⟩ := r1
      subst r2
      simp only [Bool.and_eq_true, decide_eq_true_eq] at hc
      have l1 := h3.length
      refine .inr ⟨p, k, us, rfl, rfl, w.sub _ _ h1, hc.1.1, hc.1.2, by rw [line24, ← l1]; exact hc.2, fun a ha => ?_⟩
      refine Outs.lst w o (h3.rep _) ?_ a ha
      rw [line24, List.length_flatten, List.map_replicate, List.sum_replicate_nat, ← l1, Nat.mul_comm]
      exact hc.2
    · cases he
  · cases he
def dMod := dInt (fun _ j => decide (0 < j)) fun i j => i % j
theorem opMod : OpR X (binaryOp .Mod) (rD2 X.K dMod) := opInt op_mod fun i j h => of_decide_eq_true h
def dDiv := dInt (fun _ j => decide (0 < j) && decide (j < 1073741824)) fun i j => i / j
theorem opDiv : OpR X (binaryOp .FloorDiv) (rD2 X.K dDiv) := opInt op_fdiv fun i j h => by
  simp only [Bool.and_eq_true, decide_eq_true_eq] at h; exact h
def dXor := dInt (fun _ _ => true) fun i j => Builtin.bitXor i j
def dAndI := dInt (fun _ _ => true) fun i j => Builtin.bitAnd i j
def dOrI := dInt (fun _ _ => true) fun i j => Builtin.bitOr i j
theorem opXor : OpR X (binaryOp .BitXor) (rD2 X.K dXor) := opInt0 op_xor
theorem opAndI : OpR X (binaryOp .BitAnd) (rD2 X.K dAndI) := opInt0 op_and
theorem opOrI : OpR X (binaryOp .BitOr) (rD2 X.K dOrI) := opInt0 op_or
def shOk (i j : Int) : Bool := decide (0 ≤ j) && decide (j ≤ 1000000) && decide (i.natAbs < 2 ^ 64)
def dShl := dInt shOk fun i j => i * 2 ^ j.toNat
theorem opShl : OpR X (binaryOp .LShift) (rD2 X.K dShl) := opInt op_shl fun i j h => by
  simp only [shOk, Bool.and_eq_true, decide_eq_true_eq] at h; exact ⟨h.1.1, h.1.2, h.2⟩
def dShr := dInt (fun _ j => decide (0 ≤ j)) fun i j => i / 2 ^ j.toNat
theorem opShr : OpR X (binaryOp .RShift) (rD2 X.K dShr) := opInt op_shr fun i j h => of_decide_eq_true h
def dNeg (_ : Cells) : D → Option B
  | .int i => bI (-i)
  | _ => none
theorem unNeg : UnR X (unaryOp .USub) (rD1 X.K dNeg) := by
  intro pins s σ H x v Q I rx h
  obtain ⟨F, m, S, d, b, w, r, he, o⟩ := h
  unfold dNeg at he
  split at he
  · rename_i i
    cases he
    simp only [Rep] at r
    exact un_neg pins s σ H x v Q I rx ⟨i, r, o.val w (rep_int _)⟩
  · cases he

/-! ### built-in functions -/
theorem CallR.imp {f : Value} {r r' : List V → Hp → VK → Prop} (h : CallR X f r) (k : ∀ xs H Q, r' xs H Q → r xs H Q) : CallR X f r' := by
  intro pins s σ H xs us Q I rx q
  exact h pins s σ H xs us Q I rx (k xs H Q q)
def lenD : D → Option Nat
  | .tup ds => some ds.length
  | .lst ds => some ds.length
  | .str x => some x.length
  | .scr ns => some ns.length
  | _ => none
def bLen (S : Cells) : List D → Option B
  | [.cel i] => match S[i]? with
    | some (.ls ds) => bI ds.length
    | _ => none
  | [d] => (lenD d).bind fun n => bI n
  | _ => none
theorem RepL.one' {K : PySem.W.Frag} {F : Hp} {m : List Addr} {d : D} {xs : List V} (r : RepL K F m [d] xs) : ∃ x, xs = [x] ∧ Rep K F m d x := by
  simp only [RepL] at r
  obtain ⟨x, ys, rfl, r, rfl⟩ := r
  exact ⟨x, rfl, r⟩
theorem RepL.two' {K : PySem.W.Frag} {F : Hp} {m : List Addr} {d e : D} {xs : List V} (r : RepL K F m [d, e] xs) : ∃ x y, xs = [x, y] ∧ Rep K F m d x ∧ Rep K F m e y := by
  simp only [RepL] at r
  obtain ⟨x, ys, rfl, r, y, zs, rfl, r2, rfl⟩ := r
  exact ⟨x, y, rfl, r, r2⟩
theorem crLen (hc : X.calm = true) (rm : Rm 0 X.A) : CallR X (.builtin "len") (rDn X.K bLen) := by
  refine CallR.imp (call_len_seq.or call_len_str) fun xs H Q ⟨F, m, S, ds, b, w, rl, he, o⟩ => ?_
  unfold bLen at he
  split at he
  · rename_i i
    obtain ⟨x, rfl, r⟩ := rl.one'
    simp only [Rep] at r
    obtain ⟨a, ha, rfl⟩ := r
    split at he
    · rename_i ds hs
      cases he
      obtain ⟨_, xs, h1, h2, h3⟩ := w.cel i a (.ls ds) ha hs
      refine .inl ⟨a, xs, rfl, .inl (SqL.of h1), ?_⟩
      rw [← h3.length]
      exact o.val w (rep_int _)
    · cases he
  · rename_i d _
    obtain ⟨x, rfl, r⟩ := rl.one'
    cases d with
    | tup ds =>
      cases he
      simp only [Rep] at r
      obtain ⟨p, us, rfl, h1, h2, h3⟩ := r
      refine .inl ⟨p, us, rfl, .inr (SqT.sub w.sub h1), ?_⟩
      rw [← h3.length]
      exact o.val w (rep_int _)
    | lst ds =>
      cases he
      simp only [Rep] at r
      obtain ⟨p, us, rfl, h1, h2, h3⟩ := r
      refine .inl ⟨p, us, rfl, .inl (SqL.of (w.sub _ _ h1)), ?_⟩
      rw [← h3.length]
      exact o.val w (rep_int _)
    | str z =>
      cases he
      simp only [Rep] at r
      obtain ⟨rfl, h1, h2⟩ := r
      exact .inr ⟨z, rfl, h1, o.val w (rep_int _)⟩
    | scr ns =>
      cases he
      simp only [Rep] at r
      obtain ⟨p, rfl, h1, h2⟩ := r
      refine .inl ⟨p, _, rfl, .inl (SqL.sub w.sub h1), ?_⟩
      rw [List.length_map]
      exact o.val w (rep_int _)
    | _ => cases he
  · cases he
def bInt (_ : Cells) : List D → Option B
  | [.int i] => bI i
  | [.bl k] => bI (if k then 1 else 0)
  | _ => none
theorem crInt (hc : X.calm = true) (rm : Rm 0 X.A) : CallR X (.type "int") (rDn X.K bInt) := by
  refine CallR.imp call_int1 fun xs H Q ⟨F, m, S, ds, b, w, rl, he, o⟩ => ?_
  unfold bInt at he
  split at he
  · rename_i i
    obtain ⟨x, rfl, r⟩ := rl.one'
    cases he
    simp only [Rep] at r
    subst r
    exact .inl ⟨i, rfl, o.val w (rep_int _)⟩
  · rename_i k
    obtain ⟨x, rfl, r⟩ := rl.one'
    cases he
    simp only [Rep] at r
    subst r
    exact .inr ⟨k, rfl, o.val w (rep_int _)⟩
  · cases he
def bAbs (_ : Cells) : List D → Option B
  | [.int i] => bI (if i < 0 then -i else i)
  | _ => none
theorem crAbs (hc : X.calm = true) (rm : Rm 0 X.A) : CallR X (.builtin "abs") (rDn X.K bAbs) := by
  refine CallR.imp call_abs fun xs H Q ⟨F, m, S, ds, b, w, rl, he, o⟩ => ?_
  unfold bAbs at he
  split at he
  · rename_i i
    obtain ⟨x, rfl, r⟩ := rl.one'
    cases he
    simp only [Rep] at r
    subst r
    exact ⟨i, rfl, o.val w (rep_int _)⟩
  · cases he
def bMax2 (_ : Cells) : List D → Option B
  | [.int i, .int j] => bI (if j > i then j else i)
  | _ => none
def bMin2 (_ : Cells) : List D → Option B
  | [.int i, .int j] => bI (if j < i then j else i)
  | _ => none
theorem crMax2 (hc : X.calm = true) (rm : Rm 0 X.A) : CallR X (.builtin "max") (rDn X.K bMax2) := by
  refine CallR.imp (call_max2 hc) fun xs H Q ⟨F, m, S, ds, b, w, rl, he, o⟩ => ?_
  unfold bMax2 at he
  split at he
  · rename_i i j
    obtain ⟨x, y, rfl, r, r2⟩ := rl.two'
    cases he
    simp only [Rep] at r r2
    subst r r2
    exact ⟨i, j, rfl, o.val w (rep_int _)⟩
  · cases he
theorem crMin2 (hc : X.calm = true) (rm : Rm 0 X.A) : CallR X (.builtin "min") (rDn X.K bMin2) := by
  refine CallR.imp (call_min2 hc) fun xs H Q ⟨F, m, S, ds, b, w, rl, he, o⟩ => ?_
  unfold bMin2 at he
  split at he
  · rename_i i j
    obtain ⟨x, y, rfl, r, r2⟩ := rl.two'
    cases he
    simp only [Rep] at r r2
    subst r r2
    exact ⟨i, j, rfl, o.val w (rep_int _)⟩
  · cases he
def bList (_ : Cells) : List D → Option B
  | [.tup ds] => some (.lst ds, true)
  | [.lst ds] => some (.lst ds, true)
  | _ => none
theorem crList (hc : X.calm = true) (rm : Rm 0 X.A) : CallR X (.type "list") (rDn X.K bList) := by
  refine CallR.imp call_list_of fun xs H Q ⟨F, m, S, ds, b, w, rl, he, o⟩ => ?_
  unfold bList at he
  split at he
  · obtain ⟨x, rfl, r⟩ := rl.one'
    cases he
    simp only [Rep] at r
    obtain ⟨p, us, rfl, h1, h2, h3⟩ := r
    exact ⟨p, us, rfl, .inr (SqT.sub w.sub h1), fun a ha => Outs.lst w o h3 h2 a ha⟩
  · obtain ⟨x, rfl, r⟩ := rl.one'
    cases he
    simp only [Rep] at r
    obtain ⟨p, us, rfl, h1, h2, h3⟩ := r
    exact ⟨p, us, rfl, .inl (SqL.of (w.sub _ _ h1)), fun a ha => Outs.lst w o h3 h2 a ha⟩
  · cases he
def bTuple (_ : Cells) : List D → Option B
  | [.tup ds] => some (.tup ds, false)
  | [.lst ds] => some (.tup ds, false)
  | _ => none
theorem crTuple (hc : X.calm = true) (rm : Rm 0 X.A) : CallR X (.type "tuple") (rDn X.K bTuple) := by
  refine CallR.imp call_tuple_of fun xs H Q ⟨F, m, S, ds, b, w, rl, he, o⟩ => ?_
  unfold bTuple at he
  split at he
  · obtain ⟨x, rfl, r⟩ := rl.one'
    cases he
    have r' := r
    simp only [Rep] at r
    obtain ⟨p, us, rfl, h1, h2, h3⟩ := r
    exact ⟨p, us, rfl, .inr ⟨SqT.sub w.sub h1, o.val w r'⟩⟩
  · obtain ⟨x, rfl, r⟩ := rl.one'
    cases he
    simp only [Rep] at r
    obtain ⟨p, us, rfl, h1, h2, h3⟩ := r
    exact ⟨p, us, rfl, .inl ⟨SqL.of (w.sub _ _ h1), fun a ha => Outs.tup w o h3 h2 a ha⟩⟩
  · cases he
def blsD : List D → Option (List Bool)
  | [] => some []
  | .bl b :: ds => (blsD ds).map (b :: ·)
  | _ :: _ => none
theorem blsD_ok {K : PySem.W.Frag} {F : Hp} {m : List Addr} : ∀ {ds : List D} {bs : List Bool} {xs : List V}, blsD ds = some bs → RepL K F m ds xs → xs = bs.map V.bl
  | [], bs, xs, h, r => by simp only [blsD] at h; cases h; simp only [RepL] at r; subst r; rfl
  | d :: ds, bs, xs, h, r => by
    simp only [RepL] at r
    obtain ⟨x, ys, rfl, r1, r2⟩ := r
    cases d with
    | bl b =>
      simp only [blsD] at h
      cases e : blsD ds with
      | none => rw [e] at h; cases h
      | some cs =>
        rw [e] at h; cases h
        simp only [Rep] at r1
        subst r1
        rw [blsD_ok e r2]; rfl
    | _ => simp only [blsD] at h; cases h
def bAll (_ : Cells) : List D → Option B
  | [.lst ds] => (blsD ds).bind fun bs => bB (bs.all id)
  | _ => none
def bAny (_ : Cells) : List D → Option B
  | [.lst ds] => (blsD ds).bind fun bs => bB (bs.any id)
  | _ => none
theorem crAll (hc : X.calm = true) (rm : Rm 0 X.A) : CallR X (.builtin "all") (rDn X.K bAll) := by
  refine CallR.imp (cr_all hc) fun xs H Q ⟨F, m, S, ds, b, w, rl, he, o⟩ => ?_
  unfold bAll at he
  split at he
  · rename_i ds
    obtain ⟨x, rfl, r⟩ := rl.one'
    cases e : blsD ds with
    | none => rw [e] at he; cases he
    | some bs =>
      rw [e] at he; cases he
      simp only [Rep] at r
      obtain ⟨p, us, rfl, h1, h2, h3⟩ := r
      have e2 := blsD_ok e h3
      subst e2
      exact ⟨p, bs, rfl, SqL.of (w.sub _ _ h1), o.val w (rep_bl _)⟩
  · cases he
theorem crAny (hc : X.calm = true) (rm : Rm 0 X.A) : CallR X (.builtin "any") (rDn X.K bAny) := by
  refine CallR.imp (cr_any hc) fun xs H Q ⟨F, m, S, ds, b, w, rl, he, o⟩ => ?_
  unfold bAny at he
  split at he
  · rename_i ds
    obtain ⟨x, rfl, r⟩ := rl.one'
    cases e : blsD ds with
    | none => rw [e] at he; cases he
    | some bs =>
      rw [e] at he; cases he
      simp only [Rep] at r
      obtain ⟨p, us, rfl, h1, h2, h3⟩ := r
      have e2 := blsD_ok e h3
      subst e2
      exact ⟨p, bs, rfl, SqL.of (w.sub _ _ h1), o.val w (rep_bl _)⟩
  · cases he
end
end EV

namespace EV
open PySem PySem.Spec PyProof.Rows L2

/-! ### subscripts -/
theorem atI_rep {K : PySem.W.Frag} {F : Hp} {m : List Addr} {ds : List D} {xs : List V} {i : Int} {d : D} (r : RepL K F m ds xs) (h : atI ds i = some d) : ∃ x, atI xs i = some x ∧ Rep K F m d x := by
  unfold atI at *
  rw [← r.length]
  cases e : ixN ds.length i with
  | none => rw [e] at h; cases h
  | some j =>
    rw [e] at h
    obtain ⟨x, h1, h2⟩ := r.get h
    exact ⟨x, h1, h2⟩
def strAt (z : Str) (i : Int) : Option D := (atI z.cps.toList i).map fun c => .str ⟨#[c]⟩
def ixD (S : Cells) (a b : D) : Option D := match a, b with
  | .lst ds, .int i => atI ds i
  | .tup ds, .int i => atI ds i
  | .str z, .int i => strAt z i
  | .cel c, .int i => match S[c]? with
    | some (.ls ds) => atI ds i
    | _ => none
  | .scr ns, .int i => (atI ns i).map .int
  | _, _ => none
def dIx (S : Cells) (a b : D) : Option B := (ixD S a b).map fun d => (d, false)
theorem atI_map {α β : Type} (f : α → β) (xs : List α) (i : Int) : atI (xs.map f) i = (atI xs i).map f := by
  unfold atI
  rw [List.length_map]
  cases ixN xs.length i with
  | none => rfl
  | some j => simp
theorem atI_mem {α : Type} {xs : List α} {i : Int} {v : α} (h : atI xs i = some v) : v ∈ xs := by
  unfold atI at h
  cases e : ixN xs.length i with
  | none => rw [e] at h; cases h
  | some j => rw [e] at h; exact List.mem_of_getElem? h
theorem cpOk_one {z : Str} {c : Nat} (h : cpOk z = true) (hc : c ∈ z.cps.toList) : cpOk ⟨#[c]⟩ = true := by
  unfold cpOk at *
  rw [Array.all_eq_true_iff_forall_mem] at h
  have := h c (by simpa using hc)
  simpa using this
section
variable {X : Cx}
theorem ixAll : IxR X (rD2 X.K dIx) := by
  have base := (ix_seq (X := X))
  intro val sl pins s σ H x y v u Q I rx ry hh hsub
  obtain ⟨F, m, S, d, e, b, w, r1, r2, he, o⟩ := hh
  refine base val sl pins s σ H x y v u Q I rx ry ?_ hsub
  unfold dIx at he
  cases hi : ixD S d e with
  | none => rw [hi] at he; cases he
  | some z =>
    rw [hi] at he; cases he
    unfold ixD at hi
    split at hi
    · simp only [Rep] at r1 r2
      obtain ⟨p, xs, rfl, h1, h2, h3⟩ := r1
      subst r2
      obtain ⟨a, ha, ra⟩ := atI_rep h3 hi
      exact .inl ⟨p, xs, _, a, rfl, rfl, SqL.of (w.sub _ _ h1), ha, o.val w ra⟩
    · simp only [Rep] at r1 r2
      obtain ⟨p, xs, rfl, h1, h2, h3⟩ := r1
      subst r2
      obtain ⟨a, ha, ra⟩ := atI_rep h3 hi
      exact .inr (.inl ⟨p, xs, _, a, rfl, rfl, SqT.sub w.sub h1, ha, o.val w ra⟩)
    · rename_i z i
      simp only [Rep] at r1 r2
      obtain ⟨rfl, h1, h2⟩ := r1
      subst r2
      unfold strAt at hi
      cases hc : atI z.cps.toList i with
      | none => rw [hc] at hi; cases hi
      | some c =>
        rw [hc] at hi; cases hi
        refine .inr (.inr ⟨z, i, c, rfl, rfl, h1, hc, o.val w ?_⟩)
        simp only [Rep]
        exact ⟨trivial, by rw [line24]; show 1 ≤ _; omega, cpOk_one h2 (atI_mem hc)⟩
    · rename_i c i
      simp only [Rep] at r1 r2
      obtain ⟨a, ha, rfl⟩ := r1
      subst r2
      split at hi
      · rename_i ds hs
        obtain ⟨_, xs, h1, h2, h3⟩ := w.cel c a (.ls ds) ha hs
        obtain ⟨q, hq, rq⟩ := atI_rep h3 hi
        exact .inl ⟨a, xs, i, q, rfl, rfl, SqL.of h1, hq, o.val w rq⟩
      · cases hi
    · rename_i ns i
      simp only [Rep] at r1 r2
      obtain ⟨p, rfl, h1, h2⟩ := r1
      subst r2
      cases hc : atI ns i with
      | none => rw [hc] at hi; cases hi
      | some k =>
        rw [hc] at hi; cases hi
        exact .inl ⟨p, _, i, .int k, rfl, rfl, SqL.sub w.sub h1, by rw [atI_map, hc]; rfl, o.val w (rep_int _)⟩
    · cases hi
end
def notSlice : Expr → Bool
  | .Slice .. => false
  | _ => true
theorem plainIx_of {b : Expr} (h : notSlice b = true) : PlainIx b := fun o i => by
  cases b <;> first | rfl | cases h
section
variable {pg : Pg} {N : List Str} {sc : Scope}
theorem okIx {a b : Expr} {fa fb : SE} {pos : Pos} (hs : notSlice b = true) (ha : OkE pg N sc a fa) (hb : OkE pg N sc b fb) : OkE pg N sc (.Subscript a b pos) (cOp2 dIx fa fb) := fun X ca lev W C =>
  PE.imp (pe_ix ixAll (ha X ca lev W C) (hb X ca lev W C) (plainIx_of hs)) fun σ H Q h => op2_pre h

/-! ### slices -/
def cutD {α : Type} (xs : List α) (lo hi : Option Int) : List α := (xs.drop (HT.sIx xs.length 0 lo)).take (HT.sIx xs.length xs.length hi - HT.sIx xs.length 0 lo)
def dSl (d : D) (lo hi : Option Int) : Option B := match d with
  | .lst ds => some (.lst (cutD ds lo hi), true)
  | .tup ds => some (.tup (cutD ds lo hi), false)
  | .str z => some (.str (cutS z lo hi), false)
  | _ => none
abbrev SO := Ca → En → Cells → R (Option Int)
def oNone : SO := fun _ _ S => .ok none S
def oSome (f : SE) : SO := fun ca ρ S => (f ca ρ S).bind fun b S => match b.1 with
  | .int i => .ok (some i) S
  | _ => .no
def cSl (f : SE) (lo hi : SO) : SE := fun ca ρ S => (f ca ρ S).bind fun a S => (lo ca ρ S).bind fun l S => (hi ca ρ S).bind fun h S => lift (dSl a.1 l h) S
def tO (K : PySem.W.Frag) (W : WX) (f : En → Cells → R (Option Int)) : TO := fun σ H Q => ∃ ρ S F m, Wd K F H m S ∧ REnv K F m ρ σ ∧ Post K W σ F H m (f ρ S) fun b _ _ H' _ => Q b H'
def OkO (pg : Pg) (N : List Str) (sc : Scope) (e : Option Expr) (f : SO) : Prop := ∀ X ca lev W, Ctx X sc N pg ca lev W → PO X e (tO X.K W (f ca))
theorem PO.imp {X : Cx} {e : Option Expr} {t t' : TO} (h : PO X e t) (k : ∀ σ H Q, t' σ H Q → t σ H Q) : PO X e t' := ⟨fun pins s σ H Q I q => h.run pins s σ H Q I (k σ H Q q)⟩
theorem okONone : OkO pg N sc none oNone := fun X ca lev W C => PO.imp po_none fun σ H Q ⟨ρ, S, F, m, w, r, q⟩ => q F H m (Gr.refl w)
theorem okOSome {e : Expr} {f : SE} (h : OkE pg N sc e f) : OkO pg N sc (some e) (oSome f) := fun X ca lev W C => PO.imp (po_some (h X ca lev W C)) fun σ H Q ⟨ρ, S, F, m, w, r, q⟩ => by
  refine tE.ofF w r (Post.mono (Post.bind q) fun b S1 F1 H1 m1 e1 g1 q1 x rx => ?_)
  obtain ⟨d, o⟩ := b
  cases d with
  | int i => simp only [Rep] at rx; exact ⟨i, rx, q1 F1 H1 m1 (Gr.refl g1.w)⟩
  | _ => exact q1.elim
theorem cut_rep {K : PySem.W.Frag} {F : Hp} {m : List Addr} {ds : List D} {xs : List V} (r : RepL K F m ds xs) (lo hi : Option Int) : RepL K F m (cutD ds lo hi) (cutV xs lo hi) := by
  unfold cutD cutV
  rw [r.length]
  exact (r.drop _).take _
theorem cut_whole {α : Type} {xs : List α} {lo hi : Option Int} (h1 : HT.sIx xs.length 0 lo = 0) (h2 : HT.sIx xs.length xs.length hi = xs.length) : cutD xs lo hi = xs := by
  unfold cutD
  rw [h1, h2, List.drop_zero, Nat.sub_zero, List.take_length]
theorem cutD_sub {α : Type} {xs : List α} {lo hi : Option Int} {x : α} (h : x ∈ cutD xs lo hi) : x ∈ xs := List.mem_of_mem_drop (List.mem_of_mem_take h)
theorem okSl {e : Expr} {lo hi : Option Expr} {f : SE} {fl fh : SO} {p2 pos : Pos} (he : OkE pg N sc e f) (hl : OkO pg N sc lo fl) (hh : OkO pg N sc hi fh) : OkE pg N sc (.Subscript e (.Slice lo hi none p2) pos) (cSl f fl fh) := fun X ca lev W C => by
  refine PE.imp (pe_slice (sl_list.or (sl_tupA.or sl_str)) (he X ca lev W C) (hl X ca lev W C) (hh X ca lev W C)) fun σ H Q ⟨ρ, S, F, m, w, r, q⟩ => ?_
  refine tE.ofF w r (Post.mono (Post.bind q) fun b S1 F1 H1 m1 e1 g1 q1 x rx => ?_)
  refine ⟨ρ, S1, F1, m1, g1.w, r.gr g1, Post.mono (Post.bind q1) fun l S2 F2 H2 m2 e2 g2 q2 => ?_⟩
  refine ⟨ρ, S2, F2, m2, g2.w, r.gr (g1.trans g2), Post.mono (Post.bind q2) fun u S3 F3 H3 m3 e3 g3 q3 => ?_⟩
  obtain ⟨bb, e4, o⟩ := post_lift (fun p h0 => ((g1.trans g2).trans g3).fresh h0) q3
  have rx3 := rx.gr (g2.trans g3)
  have w3 := g3.w
  obtain ⟨d, own⟩ := b
  cases d with
  | lst ds =>
    cases e4
    simp only [Rep] at rx3
    obtain ⟨p, xs, rfl, h1, h2, h3⟩ := rx3
    exact .inl ⟨p, xs, rfl, SqL.of (w3.sub _ _ h1), fun a ha => Outs.lst w3 o (cut_rep h3 l u) (Nat.le_trans (cutV_length _ _ _) h2) a ha⟩
  | tup ds =>
    cases e4
    have rx4 := rx3
    simp only [Rep] at rx3
    obtain ⟨p, xs, rfl, h1, h2, h3⟩ := rx3
    refine .inr (.inl ⟨p, xs, rfl, SqT.sub w3.sub h1, fun z => ?_, fun _ a ha => Outs.tup w3 o (cut_rep h3 l u) (Nat.le_trans (cutV_length _ _ _) h2) a ha⟩)
    refine o.val w3 ?_
    rw [← h3.length] at z
    rw [cut_whole z.1 z.2]
    exact rx4
  | str z =>
    cases e4
    simp only [Rep] at rx3
    obtain ⟨rfl, h1, h2⟩ := rx3
    refine .inr (.inr ⟨z, rfl, h1, o.val w3 ?_⟩)
    simp only [Rep]
    refine ⟨trivial, Nat.le_trans (cutS_length z l u) h1, ?_⟩
    unfold cpOk at *
    rw [Array.all_eq_true_iff_forall_mem] at h2 ⊢
    intro c hc
    refine h2 c ?_
    have : c ∈ z.cps.toList := by
      have h5 : c ∈ ((z.cps.toList.drop (HT.sIx z.length 0 l)).take (HT.sIx z.length z.length u - HT.sIx z.length 0 l)).toArray := hc
      rw [List.mem_toArray] at h5
      exact List.mem_of_mem_drop (List.mem_of_mem_take h5)
    simpa using this
  | _ => cases e4

/-! ### targets -/
inductive Pt where
  | nm (i : Nat)
  | tp (ps : List Pt)
mutual
def bindP : Pt → D → En → Option En
  | .nm i, d, ρ => if i < ρ.length then some (ρ.set i (some d)) else none
  | .tp ps, d, ρ => match d with
    | .tup ds => bindPs ps ds ρ
    | _ => none
def bindPs : List Pt → List D → En → Option En
  | [], [], ρ => some ρ
  | p :: ps, d :: ds, ρ => match bindP p d ρ with
    | some ρ' => bindPs ps ds ρ'
    | none => none
  | _, _, _ => none
end
/- every slot of the pattern is one of vs -/
mutual
def ptIn (vs : List Nat) : Pt → Bool
  | .nm i => vs.contains i
  | .tp ps => ptInL vs ps
def ptInL (vs : List Nat) : List Pt → Bool
  | [] => true
  | p :: ps => ptIn vs p && ptInL vs ps
end
/-- the target of a for: what is stored -/
def gP (K : PySem.W.Frag) (p : Pt) : TG := fun v σ H Q => ∃ F m d ρ ρ', Sub F H ∧ Rep K F m d v ∧ REnv K F m ρ σ ∧ bindP p d ρ = some ρ' ∧ ∀ σ', REnv K F m ρ' σ' → (∀ vs, ptIn vs p = true → wipe σ' vs = wipe σ vs) → Q σ' H
def gPs (K : PySem.W.Frag) (ps : List Pt) : TGs := fun vs σ H Q => ∃ F m ds ρ ρ', Sub F H ∧ RepL K F m ds vs ∧ REnv K F m ρ σ ∧ bindPs ps ds ρ = some ρ' ∧ ∀ σ', REnv K F m ρ' σ' → (∀ vs, ptInL vs ps = true → wipe σ' vs = wipe σ vs) → Q σ' H
theorem wipe_get {σ : St} : ∀ {vs : List Nat} (j : Nat), (wipe σ vs)[j]? = if j ∈ vs ∧ j < σ.length then some none else σ[j]?
  | [], j => by simp [wipe]
  | v :: vs, j => by
    have ih := wipe_get (σ := σ) (vs := vs) j
    have hl : (wipe σ vs).length = σ.length := wipe_length σ vs
    unfold wipe
    by_cases hv : v = j
    · subst hv
      by_cases hlt : v < σ.length
      · rw [List.getElem?_set_self (by rw [hl]; exact hlt)]
        simp [hlt]
      · rw [List.getElem?_eq_none (by simp [hl]; omega)]
        simp [hlt]
    · rw [List.getElem?_set_ne hv, ih]
      have : ¬ j = v := fun e => hv e.symm
      simp [this]
theorem wipe_set {σ : St} {i : Nat} {a : Option V} {vs : List Nat} (h : vs.contains i = true) : wipe (σ.set i a) vs = wipe σ vs := by
  have h' : i ∈ vs := by simpa using h
  apply List.ext_getElem?
  intro j
  rw [wipe_get, wipe_get]
  simp only [List.length_set]
  by_cases hj : j ∈ vs ∧ j < σ.length
  · simp [hj]
  · rw [if_neg hj, if_neg hj]
    by_cases hij : i = j
    · subst hij
      have : ¬ i < σ.length := fun q => hj ⟨h', q⟩
      rw [List.getElem?_eq_none (by simp; omega), List.getElem?_eq_none (by omega)]
    · rw [List.getElem?_set_ne hij]
theorem REnv.set {K : PySem.W.Frag} {F : Hp} {m : List Addr} {ρ : En} {σ : St} {i : Nat} {d : D} {v : V} (r : REnv K F m ρ σ) (h : Rep K F m d v) : REnv K F m (ρ.set i (some d)) (σ.set i (some v)) := by
  refine ⟨by simp [r.1], fun j e hj => ?_⟩
  by_cases hij : i = j
  · subst hij
    by_cases hl : i < ρ.length
    · rw [List.getElem?_set_self hl] at hj
      cases hj
      exact ⟨v, List.getElem?_set_self (by rw [← r.1]; exact hl), h⟩
    · rw [List.getElem?_eq_none (by simp; omega)] at hj; cases hj
  · rw [List.getElem?_set_ne hij] at hj
    rw [List.getElem?_set_ne hij]
    exact r.2 j e hj
theorem PG.imp {X : Cx} {e : Expr} {t t' : TG} (h : PG X e t) (k : ∀ v σ H Q, t' v σ H Q → t v σ H Q) : PG X e t' := ⟨fun pins s σ H v u Q I rv q => h.run pins s σ H v u Q I rv (k v σ H Q q)⟩
theorem PGs.imp {X : Cx} {e : List Expr} {t t' : TGs} (h : PGs X e t) (k : ∀ v σ H Q, t' v σ H Q → t v σ H Q) : PGs X e t' := ⟨fun pins s σ H v u Q I rv q => h.run pins s σ H v u Q I rv (k v σ H Q q)⟩
/-- a name that may be stored -/
def StOk (X : Cx) (x : Str) (i : Nat) : Prop := X.N[i]? = some x ∧ Loc X.env.scope x ∧ (X.fn x = true ∨ X.env.scope.names.lookup x = some .local)
theorem pgNm {X : Cx} {x : Str} {i : Nat} {pos : Pos} (hN : X.N.Nodup) (h : StOk X x i) : PG X (.Name x pos) (gP X.K (.nm i)) :=
  PG.imp (pg_name hN h.1 h.2.1 h.2.2) fun v σ H Q ⟨F, m, d, ρ, ρ', sb, rd, re, hb, q⟩ => by
    simp only [bindP] at hb
    split at hb
    · cases hb
      exact q _ (re.set rd) fun vs hv => wipe_set (by simpa only [ptIn] using hv)
    · cases hb
theorem assignEach_cons {e : Expr} {es : List Expr} {env : Env} (h : noStar e = true) : assignEach (e :: es) env = (false, assign e env) :: assignEach es env := by
  cases e <;> first | rfl | cases h
theorem assignEach_all {env : Env} : ∀ {es : List Expr}, es.all noStar = true → (assignEach es env).length = es.length ∧ (assignEach es env).findIdx? (·.1) = none
  | [], _ => ⟨rfl, rfl⟩
  | e :: es, h => by
    simp only [List.all_cons, Bool.and_eq_true] at h
    obtain ⟨h1, h2⟩ := assignEach_all (env := env) h.2
    rw [assignEach_cons h.1]
    refine ⟨by simp [h1], ?_⟩
    rw [List.findIdx?_cons]
    simp [h2]
theorem pgsNil {X : Cx} : PGs X [] (gPs X.K []) := PGs.imp pgs_nil fun vs σ H Q ⟨F, m, ds, ρ, ρ', sb, rd, re, hb, q⟩ => by
  cases ds with
  | nil =>
    simp only [RepL] at rd
    simp only [bindPs] at hb
    cases hb
    exact ⟨rd, q σ re fun _ _ => rfl⟩
  | cons d ds => simp only [bindPs] at hb; cases hb
theorem pgsCons {X : Cx} {e : Expr} {es : List Expr} {p : Pt} {ps : List Pt} (hs : noStar e = true) (h1 : PG X e (gP X.K p)) (h2 : PGs X es (gPs X.K ps)) : PGs X (e :: es) (gPs X.K (p :: ps)) :=
  PGs.imp (pgs_cons h1 h2 (by rw [assignEach_cons hs]; rfl)) fun vs σ H Q ⟨F, m, ds, ρ, ρ', sb, rd, re, hb, q⟩ => by
    cases ds with
    | nil => simp only [bindPs] at hb; cases hb
    | cons d ds =>
      simp only [RepL] at rd
      obtain ⟨x, xs, rfl, r1, r2⟩ := rd
      simp only [bindPs] at hb
      cases e1 : bindP p d ρ with
      | none => rw [e1] at hb; cases hb
      | some ρ1 =>
        rw [e1] at hb
        refine ⟨x, xs, rfl, F, m, d, ρ, ρ1, sb, r1, re, e1, fun σ1 re1 w1 => ⟨F, m, ds, ρ1, ρ', sb, r2, re1, hb, fun σ2 re2 w2 => q σ2 re2 fun vs hv => ?_⟩⟩
        simp only [ptInL, Bool.and_eq_true] at hv
        rw [w2 vs hv.2, w1 vs hv.1]
mutual
theorem bindP_len : ∀ (p : Pt) (d : D) (ρ ρ' : En), bindP p d ρ = some ρ' → ρ'.length = ρ.length
  | .nm i, d, ρ, ρ', h => by
    simp only [bindP] at h
    split at h
    · cases h; simp
    · cases h
  | .tp ps, d, ρ, ρ', h => by
    simp only [bindP] at h
    split at h
    · exact bindPs_len ps _ ρ ρ' h
    · cases h
theorem bindPs_len : ∀ (ps : List Pt) (ds : List D) (ρ ρ' : En), bindPs ps ds ρ = some ρ' → ρ'.length = ρ.length
  | [], ds, ρ, ρ', h => by
    cases ds <;> simp only [bindPs] at h
    · cases h; rfl
    · cases h
  | p :: ps, ds, ρ, ρ', h => by
    cases ds with
    | nil => simp only [bindPs] at h; cases h
    | cons d ds =>
      simp only [bindPs] at h
      cases e : bindP p d ρ with
      | none => rw [e] at h; cases h
      | some ρ1 =>
        rw [e] at h
        rw [bindPs_len ps ds ρ1 ρ' h, bindP_len p d ρ ρ1 e]
theorem bindPs_count : ∀ (ps : List Pt) (ds : List D) (ρ ρ' : En), bindPs ps ds ρ = some ρ' → ds.length = ps.length
  | [], ds, ρ, ρ', h => by
    cases ds <;> simp only [bindPs] at h
    · rfl
    · cases h
  | p :: ps, ds, ρ, ρ', h => by
    cases ds with
    | nil => simp only [bindPs] at h; cases h
    | cons d ds =>
      simp only [bindPs] at h
      cases e : bindP p d ρ with
      | none => rw [e] at h; cases h
      | some ρ1 =>
        rw [e] at h
        simp [bindPs_count ps ds ρ1 ρ' h]
end
theorem pgTp {X : Cx} {es : List Expr} {ps : List Pt} {k : Nat} {pos : Pos} (hc : X.calm = true) (hs : es.all noStar = true) (hl : es.length = ps.length) (h : PGs X es (gPs X.K ps)) : PG X (.Tuple es k pos) (gP X.K (.tp ps)) := by
  obtain ⟨h1, h2⟩ := assignEach_all (env := X.env) hs
  refine PG.imp (pg_tup (n := es.length) hc h h1 h2) fun v σ H Q ⟨F, m, d, ρ, ρ', sb, rd, re, hb, q⟩ => ?_
  cases d with
  | tup ds =>
    simp only [bindP] at hb
    simp only [Rep] at rd
    obtain ⟨a, xs, rfl, hq, hz, rl⟩ := rd
    exact ⟨a, xs, rfl, SqT.sub sb hq, by rw [← rl.length, hl]; exact bindPs_count _ _ _ _ hb, F, m, ds, ρ, ρ', sb, rl, re, hb, fun σ' re' w' => q σ' re' fun vs hv => w' vs (by simpa only [ptIn] using hv)⟩
  | _ => simp only [bindP] at hb; cases hb
end
end EV

namespace EV
open PySem PySem.Spec PyProof.Rows L2

/-! ### what is walked -/
/-- a later state, by what is frozen -/
structure Lt (K : PySem.W.Frag) (F : Hp) (m : List Addr) (F' H' : Hp) (m' : List Addr) (S' : Cells) : Prop where
  w : Wd K F' H' m' S'
  up : Sub F F'
  ext : Ext m m'
theorem Gr.lt {K : PySem.W.Frag} {F H F' H' : Hp} {m m' : List Addr} {S' : Cells} (g : Gr K F H m F' H' m' S') : Lt K F m F' H' m' S' := ⟨g.w, g.up, g.ext⟩
theorem Rep.lt {K : PySem.W.Frag} {F F' H' : Hp} {m m' : List Addr} {S' : Cells} {d : D} {v : V} (g : Lt K F m F' H' m' S') (r : Rep K F m d v) : Rep K F' m' d v := r.up g.up g.ext
/-- J gives the items ds one behind another, wherever the heap has gone to -/
def IsIt (K : PySem.W.Frag) (J : It) (F : Hp) (m : List Addr) (ds : List D) : Prop := ds.length ≤ sizeLine ∧ ∀ F2 H2 m2 S2, Lt K F m F2 H2 m2 S2 →
  (∀ i, i < ds.length → J.go i H2) ∧ J.stop ds.length H2 ∧ ∀ i x H3 d, ds[i]? = some d → J.yld i H2 x H3 → ∃ F3, Gr K F2 H2 m2 F3 H3 m2 S2 ∧ Rep K F3 m2 d x
abbrev SI := Ca → En → Cells → R (List D)
def tI (K : PySem.W.Frag) (W : WX) (f : En → Cells → R (List D)) : TI := fun σ H R => ∃ ρ S F m, Wd K F H m S ∧ REnv K F m ρ σ ∧
  Post K W σ F H m (f ρ S) fun ds _ F' H' m' => ∀ J, IsIt K J F' m' ds → R J H'
def OkI (pg : Pg) (N : List Str) (sc : Scope) (tg e : Expr) (f : SI) : Prop := ∀ X ca lev W, Ctx X sc N pg ca lev W → PI X tg e (tI X.K W (f ca))
theorem PI.imp {X : Cx} {tg e : Expr} {t t' : TI} (h : PI X tg e t) (k : ∀ σ H R, t' σ H R → t σ H R) : PI X tg e t' := ⟨fun pins s σ H R I q => h.run pins s σ H R I (k σ H R q)⟩
theorem PI.or {X : Cx} {tg e : Expr} {t t' : TI} (h : PI X tg e t) (h' : PI X tg e t') : PI X tg e fun σ H R => t σ H R ∨ t' σ H R :=
  ⟨fun pins s σ H R I q => q.elim (h.run pins s σ H R I) (h'.run pins s σ H R I)⟩
section
variable {K : PySem.W.Frag} {F : Hp} {m : List Addr} {ds : List D}
theorem isIt_list {p : Addr} {xs : List V} (hF : ∀ F2 H2 m2 S2, Lt K F m F2 H2 m2 S2 → SqL K H2 p xs) (hz : xs.length ≤ sizeLine) (r : RepL K F m ds xs) : IsIt K (Itl K p) F m ds := by
  refine ⟨r.length ▸ hz, fun F2 H2 m2 S2 g => ?_⟩
  have hq := hF F2 H2 m2 S2 g
  have hl := r.length
  refine ⟨fun i hi => ⟨xs, xs[i]'(by omega), hq, by simp⟩, ⟨xs, hq, by omega⟩, fun i x H3 d hd hy => ?_⟩
  obtain ⟨e, h⟩ := hy
  subst e
  obtain ⟨y, h1, h2⟩ := r.get hd
  have := h xs hq
  rw [h1] at this; cases this
  exact ⟨F2, Gr.refl g.w, h2.lt g⟩
theorem isIt_tup {p : Addr} {xs : List V} (hF : SqT K F p xs) (hz : xs.length ≤ sizeLine) (r : RepL K F m ds xs) : IsIt K (Itt K p) F m ds := by
  refine ⟨r.length ▸ hz, fun F2 H2 m2 S2 g => ?_⟩
  have hq : SqT K H2 p xs := SqT.sub g.w.sub (SqT.sub g.up hF)
  have hl := r.length
  refine ⟨fun i hi => ⟨xs, xs[i]'(by omega), hq, by simp⟩, ⟨xs, hq, by omega⟩, fun i x H3 d hd hy => ?_⟩
  obtain ⟨e, h⟩ := hy
  subst e
  obtain ⟨y, h1, h2⟩ := r.get hd
  have := h xs hq
  rw [h1] at this; cases this
  exact ⟨F2, Gr.refl g.w, h2.lt g⟩
def chars (z : Str) : List D := z.cps.toList.map fun c => .str ⟨#[c]⟩
theorem isIt_str {z : Str} (hz : z.length ≤ sizeLine) (hc : cpOk z = true) : IsIt K (Its z) F m (chars z) := by
  have hl : (chars z).length = z.cps.size := by unfold chars; simp
  refine ⟨by rw [hl]; exact hz, fun F2 H2 m2 S2 g => ⟨fun i hi => by rw [hl] at hi; exact hi, by rw [hl]; exact Nat.le_refl _, fun i x H3 d hd hy => ?_⟩⟩
  obtain ⟨e, c, h1, h2⟩ := hy
  subst e h2
  unfold chars at hd
  rw [List.getElem?_map, Array.getElem?_toList, h1] at hd
  cases hd
  refine ⟨F2, Gr.refl g.w, ?_⟩
  simp only [Rep]
  exact ⟨trivial, by rw [line24]; show 1 ≤ _; omega, cpOk_one hc (List.mem_of_getElem? (by rw [Array.getElem?_toList]; exact h1))⟩
def rangeD (lo : Int) (n : Nat) : List D := (List.range n).map fun i => .int (lo + (i : Nat))
theorem isIt_range {lo : Int} {n : Nat} (hn : n ≤ sizeLine) : IsIt K (Itr lo n) F m (rangeD lo n) := by
  have hl : (rangeD lo n).length = n := by unfold rangeD; simp
  refine ⟨by rw [hl]; exact hn, fun F2 H2 m2 S2 g => ⟨fun i hi => by rw [hl] at hi; exact hi, by rw [hl]; exact Nat.le_refl _, fun i x H3 d hd hy => ?_⟩⟩
  obtain ⟨e, h⟩ := hy
  subst e h
  unfold rangeD at hd
  rw [List.getElem?_map] at hd
  have hi : i < n := by
    have := (List.getElem?_eq_some_iff.mp (show (rangeD lo n)[i]? = some d by unfold rangeD; rw [List.getElem?_map]; exact hd)).1
    rwa [hl] at this
  rw [List.getElem?_range hi] at hd
  cases hd
  exact ⟨F2, Gr.refl g.w, rep_int _⟩
theorem rep_pair {F2 H2 : Hp} {m2 : List Addr} {S2 : Cells} {T : Addr} {x y : V} {d e : D} (w : Wd K F2 H2 m2 S2) (hT : H2 T = none) (r1 : Rep K F2 m2 d x) (r2 : Rep K F2 m2 e y) :
    ∃ F3, Gr K F2 H2 m2 F3 (upd H2 T (.tup [x, y])) m2 S2 ∧ Rep K F3 m2 (.tup [d, e]) (.ref T) := by
  refine ⟨upd F2 T (.tup [x, y]), Gr.layF w hT, ?_⟩
  simp only [Rep]
  have s := sub_upd (F := F2) (o := .tup [x, y]) (w.newF hT)
  exact ⟨T, _, rfl, SqT.of upd_same, by rw [line24]; show 2 ≤ _; omega, .cons (r1.up s Ext.refl) (.cons (r2.up s Ext.refl) .nil)⟩
def enumD (ds : List D) : List D := (List.range ds.length).map fun i => .tup [.int ((i : Nat) : Int), ds.getD i .non]
theorem enumD_get {i : Nat} {e : D} (h : (enumD ds)[i]? = some e) : ∃ d, ds[i]? = some d ∧ e = .tup [.int (i : Nat), d] := by
  unfold enumD at h
  rw [List.getElem?_map] at h
  by_cases hi : i < ds.length
  · rw [List.getElem?_range hi] at h
    cases h
    exact ⟨ds[i], by simp, by simp [List.getD_eq_getElem?_getD, hi]⟩
  · rw [List.getElem?_eq_none (by simp; omega)] at h; cases h
theorem isIt_enum {p : Addr} {xs : List V} (hF : ∀ F2 H2 m2 S2, Lt K F m F2 H2 m2 S2 → SqL K H2 p xs) (hz : xs.length ≤ sizeLine) (r : RepL K F m ds xs) : IsIt K (Ite K p) F m (enumD ds) := by
  have hle : (enumD ds).length = ds.length := by unfold enumD; simp
  refine ⟨by rw [hle, r.length]; exact hz, fun F2 H2 m2 S2 g => ?_⟩
  have hq := hF F2 H2 m2 S2 g
  have hl := r.length
  refine ⟨fun i hi => ⟨xs, xs[i]'(by omega), hq, by simp⟩, ⟨xs, hq, by omega⟩, fun i x H3 d hd hy => ?_⟩
  obtain ⟨T, y, rfl, hT, rfl, h⟩ := hy
  obtain ⟨d', hd', rfl⟩ := enumD_get hd
  obtain ⟨z, h1, h2⟩ := r.get hd'
  have := h xs hq
  rw [h1] at this; cases this
  exact rep_pair g.w hT (rep_int _) (h2.lt g)
def zipD (ds es : List D) : List D := (ds.zip es).map fun p => .tup [p.1, p.2]
theorem zipD_get {es : List D} {i : Nat} {e : D} (h : (zipD ds es)[i]? = some e) : ∃ a b, ds[i]? = some a ∧ es[i]? = some b ∧ e = .tup [a, b] := by
  unfold zipD at h
  rw [List.getElem?_map] at h
  cases q : (ds.zip es)[i]? with
  | none => rw [q] at h; cases h
  | some p =>
    rw [q] at h
    cases h
    obtain ⟨h1, h2⟩ := List.getElem?_zip_eq_some.mp q
    exact ⟨_, _, h1, h2, rfl⟩
theorem isIt_zipL {p q : Addr} {xs ys : List V} {es : List D} (hF : ∀ F2 H2 m2 S2, Lt K F m F2 H2 m2 S2 → SqL K H2 p xs ∧ SqL K H2 q ys) (hz : xs.length ≤ sizeLine) (r : RepL K F m ds xs) (r2 : RepL K F m es ys) : IsIt K (Itz K p q) F m (zipD ds es) := by
  have l1 := r.length
  have l2 := r2.length
  have hle : (zipD ds es).length = min ds.length es.length := by unfold zipD; simp
  refine ⟨by rw [hle]; omega, fun F2 H2 m2 S2 g => ?_⟩
  obtain ⟨hp, hq⟩ := hF F2 H2 m2 S2 g
  refine ⟨fun i hi => ⟨xs, ys, xs[i]'(by omega), ys[i]'(by omega), hp, hq, by simp, by simp⟩, ⟨xs, ys, hp, hq, by omega⟩, fun i x H3 d hd hy => ?_⟩
  obtain ⟨T, x', y', rfl, hT, rfl, h, h'⟩ := hy
  obtain ⟨a, b, ha, hb, rfl⟩ := zipD_get hd
  obtain ⟨z, z1, z2⟩ := r.get ha
  obtain ⟨u, u1, u2⟩ := r2.get hb
  have e1 := h xs hp
  rw [z1] at e1; cases e1
  have e2 := h' ys hq
  rw [u1] at e2; cases e2
  exact rep_pair g.w hT (z2.lt g) (u2.lt g)
theorem isIt_zipT {p q : Addr} {xs ys : List V} {es : List D} (hp : SqT K F p xs) (hq : SqT K F q ys) (hz : xs.length ≤ sizeLine) (r : RepL K F m ds xs) (r2 : RepL K F m es ys) : IsIt K (RZ.ItzT K p q) F m (zipD ds es) := by
  have l1 := r.length
  have l2 := r2.length
  have hle : (zipD ds es).length = min ds.length es.length := by unfold zipD; simp
  refine ⟨by rw [hle]; omega, fun F2 H2 m2 S2 g => ?_⟩
  have hp := SqT.sub g.w.sub (SqT.sub g.up hp)
  have hq := SqT.sub g.w.sub (SqT.sub g.up hq)
  refine ⟨fun i hi => ⟨xs, ys, xs[i]'(by omega), ys[i]'(by omega), hp, hq, by simp, by simp⟩, ⟨xs, ys, hp, hq, by omega⟩, fun i x H3 d hd hy => ?_⟩
  obtain ⟨T, x', y', rfl, hT, rfl, h, h'⟩ := hy
  obtain ⟨a, b, ha, hb, rfl⟩ := zipD_get hd
  obtain ⟨z, z1, z2⟩ := r.get ha
  obtain ⟨u, u1, u2⟩ := r2.get hb
  have e1 := h xs hp
  rw [z1] at e1; cases e1
  have e2 := h' ys hq
  rw [u1] at e2; cases e2
  exact rep_pair g.w hT (z2.lt g) (u2.lt g)
end

/-! ### the forms -/
def itemsD : D → Option (List D)
  | .lst ds => some ds
  | .tup ds => some ds
  | .str z => some (chars z)
  | _ => none
def iVal (f : SE) : SI := fun ca ρ S => (f ca ρ S).bind fun b S => match itemsD b.1 with
  | some ds => .ok ds S
  | none => .no
def rngOk (j : Int) : Bool := decide (-(2 ^ 62) ≤ j) && decide (j < 2 ^ 62)
def iRng1 (f : SE) : SI := fun ca ρ S => (f ca ρ S).bind fun b S => match b.1 with
  | .int j => if rngOk j && decide (j.toNat ≤ 16777216) then .ok (rangeD 0 j.toNat) S else .no
  | _ => .no
def iRng2 (f g : SE) : SI := fun ca ρ S => (f ca ρ S).bind fun a S => (g ca ρ S).bind fun b S => match a.1, b.1 with
  | .int i, .int j => if rngOk i && rngOk j && decide ((j - i).toNat ≤ 16777216) then .ok (rangeD i (j - i).toNat) S else .no
  | _, _ => .no
def iEnu (f : SE) : SI := fun ca ρ S => (f ca ρ S).bind fun b S => match b.1 with
  | .lst ds => .ok (enumD ds) S
  | _ => .no
def iZip (f g : SE) : SI := fun ca ρ S => (f ca ρ S).bind fun a S => (g ca ρ S).bind fun b S => match a.1, b.1 with
  | .lst ds, .lst es => .ok (zipD ds es) S
  | .tup ds, .tup es => .ok (zipD ds es) S
  | _, _ => .no
theorem lst_stays {K : PySem.W.Frag} {F : Hp} {m : List Addr} {p : Addr} {xs : List V} (h : F p = some (.lst xs)) : ∀ F2 H2 m2 S2, Lt K F m F2 H2 m2 S2 → SqL K H2 p xs := fun F2 H2 m2 S2 g => SqL.of (g.w.sub _ _ (g.up _ _ h))
section
variable {pg : Pg} {N : List Str} {sc : Scope}
theorem okIVal {tg e : Expr} {f : SE} (h : OkE pg N sc e f) : OkI pg N sc tg e (iVal f) := fun X ca lev W C => by
  have P := h X ca lev W C
  refine PI.imp (PI.or (pi_list P) (PI.or (pi_tup P) (pi_str P))) fun σ H R ⟨ρ, S, F, m, w, r, q⟩ => ?_
  have q1 := Post.bind q
  cases e1 : f ca ρ S with
  | no => rw [e1] at q1; exact q1.elim
  | exn c d S1 =>
    rw [e1] at q1
    refine .inl (tE.ofF w r ?_)
    rw [e1]; exact q1
  | ok b S1 =>
    rw [e1] at q1
    obtain ⟨d, own⟩ := b
    cases d with
    | lst ds =>
      refine .inl (tE.ofF w r ?_)
      rw [e1]
      intro F1 H1 m1 g1 v rv
      simp only [Rep] at rv
      obtain ⟨p, xs, rfl, h1, h2, h3⟩ := rv
      exact ⟨p, rfl, ⟨xs, SqL.of (g1.w.sub _ _ h1)⟩, q1 F1 H1 m1 g1 F1 H1 m1 (Gr.refl g1.w) _ (isIt_list (lst_stays h1) h2 h3)⟩
    | tup ds =>
      refine .inr (.inl (tE.ofF w r ?_))
      rw [e1]
      intro F1 H1 m1 g1 v rv
      simp only [Rep] at rv
      obtain ⟨p, xs, rfl, h1, h2, h3⟩ := rv
      exact ⟨p, rfl, ⟨xs, SqT.sub g1.w.sub h1⟩, q1 F1 H1 m1 g1 F1 H1 m1 (Gr.refl g1.w) _ (isIt_tup h1 h2 h3)⟩
    | str z =>
      refine .inr (.inr (tE.ofF w r ?_))
      rw [e1]
      intro F1 H1 m1 g1 v rv
      simp only [Rep] at rv
      obtain ⟨rfl, h1, h2⟩ := rv
      exact ⟨z, rfl, q1 F1 H1 m1 g1 F1 H1 m1 (Gr.refl g1.w) _ (isIt_str h1 h2)⟩
    | _ =>
      unfold iVal at q
      rw [e1] at q
      exact q.elim
end
end EV

namespace EV
open PySem PySem.Spec PyProof.Rows L2
section
variable {pg : Pg} {N : List Str} {sc : Scope}
theorem okIRng1 {tg a : Expr} {p pos : Pos} {f : SE} (hg : glB sc "range" = true) (hb : ("range" : Str) ∈ pg.blts) (hs : noStar a = true) (h : OkE pg N sc a f) : OkI pg N sc tg (.Call (.Name "range" p) [a] [] pos) (iRng1 f) := fun X ca lev W C => by
  refine PI.imp (pi_range1 (C.gl hg) (C.lib.blt _ hb) (okCons hs h okNil X ca lev W C) (starEach_cons hs)) fun σ H R ⟨ρ, S, F, m, w, r, q⟩ => ?_
  refine ⟨ρ, S, F, m, w, r, ?_⟩
  have q1 := Post.bind q
  unfold aCons
  cases e1 : f ca ρ S with
  | no => rw [e1] at q1; exact q1
  | exn c d S1 => rw [e1] at q1; exact q1
  | ok b S1 =>
    rw [e1] at q1
    intro F1 H1 m1 g1 vs rv
    obtain ⟨x, rfl, rx⟩ := rv.one'
    have q2 := q1 F1 H1 m1 g1
    obtain ⟨d, own⟩ := b
    cases d with
    | int j =>
      simp only [Rep] at rx
      subst rx
      dsimp only at q2
      split at q2
      · rename_i hc
        simp only [rngOk, Bool.and_eq_true, decide_eq_true_eq] at hc
        exact ⟨j, rfl, hc.1.1, hc.1.2, q2 F1 H1 m1 (Gr.refl g1.w) _ (isIt_range (by rw [line24]; exact hc.2))⟩
      · exact q2.elim
    | _ => exact q2.elim
theorem okIRng2 {tg a b : Expr} {p pos : Pos} {f g : SE} (hg : glB sc "range" = true) (hb : ("range" : Str) ∈ pg.blts) (hs : noStar a = true) (hs2 : noStar b = true) (h : OkE pg N sc a f) (h2 : OkE pg N sc b g) : OkI pg N sc tg (.Call (.Name "range" p) [a, b] [] pos) (iRng2 f g) := fun X ca lev W C => by
  refine PI.imp (pi_range2 (C.gl hg) (C.lib.blt _ hb) (okCons hs h (okCons hs2 h2 okNil) X ca lev W C) (by rw [starEach_cons hs, starEach_cons hs2]; rfl) (starEach_cons hs2)) fun σ H R ⟨ρ, S, F, m, w, r, q⟩ => ?_
  refine ⟨ρ, S, F, m, w, r, ?_⟩
  have q1 := Post.bind q
  show Post _ _ _ _ _ _ ((f ca ρ S).bind fun b S => ((aCons g aNil ca ρ S)).bind fun ds S => .ok (b.1 :: ds) S) _
  cases e1 : f ca ρ S with
  | no => rw [e1] at q1; exact q1
  | exn c d S1 => rw [e1] at q1; exact q1
  | ok b S1 =>
    unfold iRng2 at q
    rw [e1] at q
    have q2 : Post X.K W σ F H m ((g ca ρ S1).bind fun b2 S => match b.1, b2.1 with
      | .int i, .int j => if rngOk i && rngOk j && decide ((j - i).toNat ≤ 16777216) then .ok (rangeD i (j - i).toNat) S else .no
      | _, _ => .no) _ := q
    show Post _ _ _ _ _ _ (((g ca ρ S1).bind fun c S => ((aNil ca ρ S)).bind fun ds S => .ok (c.1 :: ds) S).bind fun ds S => .ok (b.1 :: ds) S) _
    have q3 := Post.bind q2
    cases e2 : g ca ρ S1 with
    | no => rw [e2] at q3; exact q3
    | exn c d S2 => rw [e2] at q3; exact q3
    | ok c S2 =>
      rw [e2] at q3
      intro F1 H1 m1 g1 vs rv
      obtain ⟨x, y, rfl, rx, ry⟩ := rv.two'
      have q4 := q3 F1 H1 m1 g1
      obtain ⟨d, o1⟩ := b
      obtain ⟨e, o2⟩ := c
      cases d with
      | int i =>
        cases e with
        | int j =>
          simp only [Rep] at rx ry
          subst rx ry
          dsimp only at q4
          split at q4
          · rename_i hc
            simp only [rngOk, Bool.and_eq_true, decide_eq_true_eq] at hc
            exact ⟨i, j, rfl, ⟨hc.1.1.1, hc.1.1.2, hc.1.2.1, hc.1.2.2⟩, q4 F1 H1 m1 (Gr.refl g1.w) _ (isIt_range (by rw [line24]; exact hc.2))⟩
          · exact q4.elim
        | _ => exact q4.elim
      | _ => exact q4.elim
theorem okIEnu {elts : List Expr} {kk : Nat} {tpos : Pos} {a : Expr} {p pos : Pos} {f : SE} (hg : glB sc "enumerate" = true) (hb : ("enumerate" : Str) ∈ pg.blts) (hs : noStar a = true) (h : OkE pg N sc a f) :
    OkI pg N sc (.Tuple elts kk tpos) (.Call (.Name "enumerate" p) [a] [] pos) (iEnu f) := fun X ca lev W C => by
  refine PI.imp (pi_enum (C.gl hg) (C.lib.blt _ hb) (okCons hs h okNil X ca lev W C) (starEach_cons hs)) fun σ H R ⟨ρ, S, F, m, w, r, q⟩ => ?_
  refine ⟨ρ, S, F, m, w, r, ?_⟩
  have q1 := Post.bind q
  unfold aCons
  cases e1 : f ca ρ S with
  | no => rw [e1] at q1; exact q1
  | exn c d S1 => rw [e1] at q1; exact q1
  | ok b S1 =>
    rw [e1] at q1
    intro F1 H1 m1 g1 vs rv
    obtain ⟨x, rfl, rx⟩ := rv.one'
    have q2 := q1 F1 H1 m1 g1
    obtain ⟨d, own⟩ := b
    cases d with
    | lst ds =>
      simp only [Rep] at rx
      obtain ⟨p, xs, rfl, h1, h2, h3⟩ := rx
      exact ⟨p, xs, rfl, SqL.of (g1.w.sub _ _ h1), q2 F1 H1 m1 (Gr.refl g1.w) _ (isIt_enum (lst_stays h1) h2 h3)⟩
    | _ => exact q2.elim

/-! ### comprehensions -/
def R.noX {α : Type} : R α → R α
  | .exn _ _ _ => .no
  | r => r
/-- the turns of a comprehension: acc what is made so far -/
def compL (bnd : D → Option En) (t : En → Cells → R Bool) (e : En → Cells → R B) : List D → List D → Cells → R (List D)
  | [], acc, S => .ok acc S
  | d :: ds, acc, S => match bnd d with
    | none => .no
    | some ρ => (t ρ S).noX.bind fun b S => match b with
      | true => (e ρ S).noX.bind fun v S => compL bnd t e ds (acc ++ [v.1]) S
      | false => compL bnd t e ds acc S
def wipeE (ρ : En) : List Nat → En
  | [] => ρ
  | v :: vs => (wipeE ρ vs).set v none
def cComp (it : SI) (vs : List Nat) (p : Pt) (t : ST) (e : SE) : SE := fun ca ρ S => (it ca ρ S).bind fun ds S =>
  (compL (fun d => bindP p d (wipeE ρ vs)) (t ca) (e ca) ds [] S).bind fun ds S => .ok (.lst ds, true) S
def tYesT : ST := fun _ _ S => .ok true S
def OkTs (pg : Pg) (N : List Str) (sc : Scope) (es : List Expr) (f : ST) : Prop := ∀ X ca lev W, Ctx X sc N pg ca lev W → PTs X es (tT X.K W (f ca))
theorem PTs.imp {X : Cx} {e : List Expr} {t t' : TT} (h : PTs X e t) (k : ∀ σ H Q, t' σ H Q → t σ H Q) : PTs X e t' := ⟨fun pins s σ H Q I q => h.run pins s σ H Q I (k σ H Q q)⟩
theorem okTsNil : OkTs pg N sc [] tYesT := fun X ca lev W C => PTs.imp pts_nil fun σ H Q ⟨ρ, S, F, m, w, r, q⟩ => q F H m (Gr.refl w)
theorem okTsOne {c : Expr} {t : ST} (h : OkT pg N sc c t) : OkTs pg N sc [c] t := fun X ca lev W C => pts_one (h X ca lev W C)
theorem wipe_len (σ : St) (ρ : En) (h : ρ.length = σ.length) : ∀ vs : List Nat, (wipeE ρ vs).length = (wipe σ vs).length
  | [] => h
  | v :: vs => by unfold wipeE wipe; simp [wipe_len σ ρ h vs]
theorem REnv.wipe {K : PySem.W.Frag} {F : Hp} {m : List Addr} {ρ : En} {σ : St} (r : REnv K F m ρ σ) : ∀ vs : List Nat, REnv K F m (wipeE ρ vs) (wipe σ vs)
  | [] => r
  | v :: vs => by
    have ih := REnv.wipe r vs
    refine ⟨wipe_len σ ρ r.1 (v :: vs), fun i d e => ?_⟩
    unfold wipeE at e
    unfold L2.wipe
    by_cases hi : v = i
    · subst hi
      by_cases hl : v < (wipeE ρ vs).length
      · rw [List.getElem?_set_self hl] at e; cases e
      · rw [List.getElem?_eq_none (by simp; omega)] at e; cases e
    · rw [List.getElem?_set_ne hi] at e
      rw [List.getElem?_set_ne hi]
      exact ih.2 i d e
/-! ### targets by the text -/
def tgt (ok : Str → Option Nat) : Nat → Expr → Option Pt
  | 0, _ => none
  | _ + 1, .Name x _ => (ok x).map .nm
  | n + 1, .Tuple es _ _ => if es.all noStar then (es.mapM (tgt ok n)).map .tp else none
  | _, _ => none
theorem tgt_ok {X : Cx} {ok : Str → Option Nat} (hN : X.N.Nodup) (hc : X.calm = true) (h : ∀ x i, ok x = some i → StOk X x i) : ∀ (n : Nat) (e : Expr) (p : Pt), tgt ok n e = some p → PG X e (gP X.K p)
  | 0, e, p, q => by cases q
  | n + 1, e, p, q => by
    unfold tgt at q
    split at q
    · cases q
    · rename_i n' x pos hn
      cases hn
      cases e1 : ok x with
      | none => rw [e1] at q; cases q
      | some i => rw [e1] at q; cases q; exact pgNm hN (h x i e1)
    · rename_i n' es k pos hn
      cases hn
      split at q
      · rename_i hs
        cases e1 : es.mapM (tgt ok n) with
        | none => rw [e1] at q; cases q
        | some ps =>
          rw [e1] at q; cases q
          have key : ∀ (es : List Expr) (ps : List Pt), es.all noStar = true → es.mapM (tgt ok n) = some ps → es.length = ps.length ∧ PGs X es (gPs X.K ps) := by
            intro es
            induction es with
            | nil => intro ps _ e; cases e; exact ⟨rfl, pgsNil⟩
            | cons e es ih =>
              intro ps hs e1
              simp only [List.all_cons, Bool.and_eq_true] at hs
              rw [List.mapM_cons] at e1
              cases e2 : tgt ok n e with
              | none => rw [e2] at e1; cases e1
              | some p =>
                rw [e2] at e1
                cases e3 : es.mapM (tgt ok n) with
                | none => rw [e3] at e1; cases e1
                | some qs =>
                  rw [e3] at e1; cases e1
                  obtain ⟨l, g⟩ := ih qs hs.2 e3
                  exact ⟨by simp [l], pgsCons hs.1 (tgt_ok hN hc h n e p e2) g⟩
          obtain ⟨l, g⟩ := key es ps hs e1
          exact pgTp hc hs l g
      · cases q
    · cases q
def ownOk (N : List Str) (scope : Scope) (x : Str) : Option Nat := match scope.names.lookup x with
  | some .local => slot? N x
  | some .cell => slot? N x
  | _ => none
theorem relS_keep {scope sc : Scope} {x : Str} {k : NameKind} (hk : k ≠ .free) (h : scope.names.lookup x = some k) : (relS scope sc).names.lookup x = some k := lookup_relS_keep hk h
/-- the context of a comprehension's block -/
theorem Ctx.blk {X : Cx} {ca : Ca} {lev : Nat} {W : WX} (C : Ctx X sc N pg ca lev W) (s : Shared) (H : Hp) (scope : Scope) (cl : List (Str × Addr)) (A : Addr) (fp : List Addr) :
    Ctx (X.blk s H scope (compEnvC scope cl A X.env) fp) (relS scope sc) N pg ca lev (fun _ _ _ _ => False) where
  sc := by rw [← C.sc]; rfl
  names := C.names
  nd := C.nd
  calm := C.calm
  room2 := C.room2
  mker := C.mker
  lib := C.lib
  tk := fun u s' ⟨_, _, _, _, _, _, _, _, _, _, _, _, _, _, _, _, z⟩ => z.elim
theorem own_st {X : Cx} {ca : Ca} {lev : Nat} {W : WX} (C : Ctx X sc N pg ca lev W) {s : Shared} {H : Hp} {scope : Scope} {cl : List (Str × Addr)} {A : Addr} {fp : List Addr} {x : Str} {i : Nat} (h : ownOk N scope x = some i) :
    StOk (X.blk s H scope (compEnvC scope cl A X.env) fp) x i := by
  have C' := C.blk s H scope cl A fp
  unfold ownOk at h
  split at h
  · rename_i e
    have e2 := relS_keep (sc := sc) (k := .local) (by decide) e
    exact ⟨by rw [C'.names]; exact slot_ok h, .inl (by rw [C'.sc]; exact e2), .inr (by rw [C'.sc]; exact e2)⟩
  · rename_i e
    have e2 := relS_keep (sc := sc) (k := .cell) (by decide) e
    exact ⟨by rw [C'.names]; exact slot_ok h, .inr (by rw [C'.sc]; exact e2), .inl (by show (scope.names.lookup x == some .cell) = true; rw [e]; rfl)⟩
  · cases h
end
end EV

namespace EV
open PySem PySem.Spec PyProof.Rows L2
section
variable {K : PySem.W.Frag} {F H F1 H1 F2 H2 : Hp} {m m1 m2 : List Addr} {S S1 S2 : Cells}
/-- one's own object changes -/
theorem Gr.own {a : Addr} {o : HO} (g : Gr K F1 H1 m1 F2 H2 m2 S2) (h1 : H1 a = none) (h2 : F2 a = none) (h3 : a ∉ m2) : Gr K F1 H1 m1 F2 (upd H2 a o) m2 S2 :=
  ⟨⟨fun b u e => by
      have hb : b ≠ a := fun z => by rw [z, h2] at e; cases e
      rw [upd_ne hb]; exact g.w.sub b u e, g.w.len, g.w.nd, fun i b ds q1 q2 => by
      obtain ⟨e1, e2⟩ := g.w.cel i b ds q1 q2
      have hb : b ≠ a := fun z => h3 (z ▸ List.mem_of_getElem? q1)
      exact ⟨e1, e2.keep Sub.refl Ext.refl (upd_ne hb)⟩, g.w.im⟩, g.up, g.ext, fun b u e1 e2 e3 => by
    obtain ⟨q1, q2, q3⟩ := g.frm b u e1 e2 e3
    exact ⟨by rw [upd_ne (ne_of_none e1 h1)]; exact q1, q2, q3⟩⟩
theorem wipe_wipe {σ : St} {vs : List Nat} : wipe (wipe σ vs) vs = wipe σ vs := by
  apply List.ext_getElem?
  intro j
  rw [wipe_get, wipe_get, wipe_length]
  by_cases hj : j ∈ vs ∧ j < σ.length
  · simp [hj]
  · rw [if_neg hj, if_neg hj]
theorem noX_ok {α β : Type} {r : R α} {k : α → Cells → R β} {W : WX} {σ : St} {out : β → Cells → Hp → Hp → List Addr → Prop} (h : Post K W σ F H m (r.noX.bind k) out) : ∃ a S', r = .ok a S' ∧ Post K W σ F H m (k a S') out := by
  cases r with
  | ok a S' => exact ⟨a, S', rfl, h⟩
  | exn c d S' => exact h.elim
  | no => exact h.elim
/-- the turns of a comprehension -/
theorem comp_core {W : WX} {σ : St} {ρ : En} {ca : Ca} {J : It} {ds : List D} {vs : List Nat} {p : Pt} {t : ST} {e : SE} {Q : VK} {D0 : Addr} (w1 : Wd K F1 H1 m1 S1) (it : IsIt K J F1 m1 ds) (re : REnv K F1 m1 ρ σ) (hp : ptIn vs p = true) (hD : H1 D0 = none)
    (h : Post K W σ F1 H1 m1 (compL (fun d => bindP p d (wipeE ρ vs)) (t ca) (e ca) ds [] S1) fun res _ F' H' m' => ∀ xs, H' D0 = some (.lst xs) → F' D0 = none → D0 ∉ m' → xs.length ≤ sizeLine → RepL K F' m' res xs → Q (.ref D0) H') :
    ∃ Wi : Nat → Nat → Hp → Prop, (∃ k, Wi 0 k (upd H1 D0 (.lst []))) ∧ ∀ i k H, Wi i k H →
      (J.stop i H ∧ Q (.ref D0) H) ∨ (J.go i H ∧ ∃ Nx : Hp → Prop, (∀ H', Nx H' → ∃ k', k' < k ∧ Wi (i + 1) k' H') ∧ ∀ x H', J.yld i H x H' → gP K p x (wipe σ vs) H' fun σ2 H2 => wipe σ2 vs = wipe σ vs ∧
        tT K (fun _ _ _ _ => False) (t ca) σ2 H2 fun b H3 => if b = true then tE K (fun _ _ _ _ => False) (e ca) σ2 H3 fun y H4 => ∃ acc, H4 D0 = some (.lst acc) ∧ acc.length < sizeLine ∧ Nx (upd H4 D0 (.lst (acc ++ [y]))) else Nx H3) := by
  obtain ⟨hlen, it⟩ := it
  refine ⟨fun i k H => k = ds.length - i ∧ i ≤ ds.length ∧ ∃ F2 m2 S2 accD acc, Gr K F1 H1 m1 F2 H m2 S2 ∧ H D0 = some (.lst acc) ∧ F2 D0 = none ∧ D0 ∉ m2 ∧ RepL K F2 m2 accD acc ∧ accD.length ≤ i ∧
      Post K W σ F1 H1 m1 (compL (fun d => bindP p d (wipeE ρ vs)) (t ca) (e ca) (ds.drop i) accD S2) fun res _ F' H' m' => ∀ xs, H' D0 = some (.lst xs) → F' D0 = none → D0 ∉ m' → xs.length ≤ sizeLine → RepL K F' m' res xs → Q (.ref D0) H',
    ⟨ds.length, rfl, Nat.zero_le _, F1, m1, S1, [], [], Gr.lay w1 hD, upd_same, w1.newF hD, w1.newNot hD, .nil, Nat.le_refl _, h⟩, ?_⟩
  rintro i k H ⟨rfl, hi, F2, m2, S2, accD, acc, g, hH, hF, hm, ra, hl, P⟩
  obtain ⟨i1, i2, i3⟩ := it F2 H m2 S2 g.lt
  have hal := ra.length
  by_cases hlt : i < ds.length
  · refine .inr ⟨i1 i hlt, _, fun H' z => ⟨ds.length - (i + 1), by omega, z⟩, fun x H' hy => ?_⟩
    have ed : ds.drop i = ds[i] :: ds.drop (i + 1) := List.drop_eq_getElem_cons hlt
    rw [ed] at P
    simp only [compL] at P
    obtain ⟨F3, g3, r3⟩ := i3 i x H' ds[i] (by simp) hy
    obtain ⟨hH3, hF3, hm3⟩ := g3.frm D0 _ hH hF hm
    cases eb : bindP p ds[i] (wipeE ρ vs) with
    | none => rw [eb] at P; exact P.elim
    | some ρ' =>
      rw [eb] at P
      obtain ⟨b, S3, et, P2⟩ := noX_ok P
      have re3 : REnv K F3 m2 (wipeE ρ vs) (wipe σ vs) := ((re.gr g).gr g3).wipe vs
      refine ⟨F3, m2, ds[i], _, ρ', g3.w.sub, r3, re3, eb, fun σ2 re2 w2 => ⟨by rw [w2 vs hp, wipe_wipe], ρ', S2, F3, m2, g3.w, re2, ?_⟩⟩
      rw [et]
      intro F4 H4 m4 g4
      obtain ⟨hH4, hF4, hm4⟩ := g4.frm D0 _ hH3 hF3 hm3
      have G4 := (g.trans g3).trans g4
      cases b with
      | false =>
        rw [if_neg Bool.false_ne_true]
        exact ⟨rfl, hlt, F4, m4, S3, accD, acc, G4, hH4, hF4, hm4, ra.gr (g3.trans g4), by omega, P2⟩
      | true =>
        rw [if_pos rfl]
        obtain ⟨v, S4, ee, P3⟩ := noX_ok P2
        refine tE.ofF g4.w (re2.gr g4) ?_
        rw [ee]
        intro F5 H5 m5 g5 y ry
        obtain ⟨hH5, hF5, hm5⟩ := g5.frm D0 _ hH4 hF4 hm4
        refine ⟨acc, hH5, by omega, rfl, hlt, F5, m5, S4, accD ++ [v.1], acc ++ [y], (G4.trans g5).own hD hF5 hm5, upd_same, hF5, hm5, (ra.gr ((g3.trans g4).trans g5)).append (.one ry), by simp; omega, P3⟩
  · have e : i = ds.length := by omega
    subst e
    rw [List.drop_length] at P
    exact .inl ⟨i2, P F2 H m2 g acc hH hF hm (by omega) ra⟩
end
section
variable {pg : Pg} {N : List Str} {sc : Scope}
def notSet : Expr → Bool
  | .Set .. => false
  | _ => true
theorem notSet_ok {e : Expr} {env : Env} (h : notSet e = true) (x : Value) : foldedSetIterable e env x = pure x := by
  cases e <;> first | rfl | cases h
theorem lc_pre {X : Cx} {W : WX} {ca : Ca} {fi : SI} {vs : List Nat} {p : Pt} {t : ST} {e : SE} {σ : St} {H : Hp} {Q : VK} (hp : ptIn vs p = true) (h : tE X.K W (cComp fi vs p t e ca) σ H Q) :
    tLc (tI X.K W (fi ca)) (gP X.K p) (tT X.K (fun _ _ _ _ => False) (t ca)) (tE X.K (fun _ _ _ _ => False) (e ca)) vs σ H Q := by
  obtain ⟨ρ, S, F, m, w, r, q⟩ := h
  refine ⟨ρ, S, F, m, w, r, Post.mono (Post.bind q) fun ds S1 F1 H1 m1 e1 g1 q1 J it D0 hD => ?_⟩
  refine comp_core g1.w it (r.gr g1) hp hD (Post.mono (Post.bind q1) fun res S2 F2 H2 m2 e2 g2 q2 xs h1 h2 h3 h4 h5 => ?_)
  exact q2 F2 H2 m2 (Gr.refl g2.w) (.ref D0) ⟨D0, xs, res, rfl, rfl, g1.fresh hD, h1, h2, h3, h4, h5⟩
theorem okLc {elt tg iter : Expr} {ifs : List Expr} {scope : Scope} {own : List (Str × Nat)} {pos : Pos} {fi : SI} {p : Pt} {t : ST} {e : SE} {n : Nat} (hb : blkC N sc scope own = true) (hs : notSet iter = true) (hi : OkI pg N sc tg iter fi) (hg : tgt (ownOk N scope) n tg = some p)
    (hp : ptIn (own.map (·.2)) p = true) (ht : OkTs pg N (relS scope sc) ifs t) (he : OkE pg N (relS scope sc) elt e) : OkE pg N sc (.ListComp elt [⟨tg, iter, ifs, 0⟩] scope pos) (cComp fi (own.map (·.2)) p t e) := fun X ca lev W C => by
  refine PE.imp (pe_lc (own := own) (g := gP X.K p) (tt := tT X.K (fun _ _ _ _ => False) (t ca)) (te := tE X.K (fun _ _ _ _ => False) (e ca)) C.calm C.nd (hi X ca lev W C) (by rw [C.names, C.sc]; exact blkOk_by hb)
    (fun s H A cl fp => tgt_ok (C.blk s H scope cl A fp).nd (C.blk s H scope cl A fp).calm (fun x i h => own_st C h) n tg p hg)
    (fun s H A cl fp => ht _ ca lev _ (C.blk s H scope cl A fp)) (fun s H A cl fp => he _ ca lev _ (C.blk s H scope cl A fp)) (notSet_ok hs)) fun σ H Q h => lc_pre hp h
end
end EV

namespace EV
open PySem PySem.Spec PyProof.Rows L2

/-! ### lists that are one's own -/
/-- F without the lists at ps -/
def thaw (F : Hp) (ps : List Addr) : Hp := fun a => if a ∈ ps then none else F a
theorem thaw_sub {F : Hp} {ps : List Addr} : Sub (thaw F ps) F := fun a o e => by
  unfold thaw at e
  split at e
  · cases e
  · exact e
theorem thaw_keep {F : Hp} {ps : List Addr} {a : Addr} {o : HO} (h : F a = some o) (hp : ∀ a ∈ ps, ∃ xs, F a = some (.lst xs)) (ho : ∀ xs, o ≠ .lst xs) : thaw F ps a = some o := by
  unfold thaw
  split
  · rename_i hm
    obtain ⟨xs, e⟩ := hp a hm
    rw [h] at e; cases e
    exact absurd rfl (ho xs)
  · exact h
theorem exq_lst {e C : Addr} {d : Option Addr} {xs : List V} : EVX.exq e C d ≠ .lst xs := fun z => by
  have z' : HO.ext _ = HO.lst xs := z
  cases z'
theorem exd_lst {e : Addr} {fs : List (Str × V)} {xs : List V} : exd e fs ≠ .lst xs := fun z => by
  have z' : HO.ext _ = HO.lst xs := z
  cases z'
theorem SqT.thaw {K : PySem.W.Frag} {F : Hp} {ps : List Addr} {p : Addr} {xs : List V} (hp : ∀ a ∈ ps, ∃ xs, F a = some (.lst xs)) (h : SqT K F p xs) : SqT K (thaw F ps) p xs := by
  rcases h with (h | ⟨o, h⟩) | h
  · exact .inl (.inl (thaw_keep h hp fun _ z => by cases z))
  · exact .inl (.inr ⟨o, thaw_keep h hp fun _ z => by cases z⟩)
  · exact .inr h
theorem SqL.thaw {K : PySem.W.Frag} {F : Hp} {ps : List Addr} {p : Addr} {xs : List V} (hp : ∀ a ∈ ps, ∃ xs, F a = some (.lst xs)) (hn : p ∉ ps) (h : SqL K F p xs) : SqL K (EV.thaw F ps) p xs := by
  have e : EV.thaw F ps p = F p := by unfold EV.thaw; rw [if_neg hn]
  rcases h with (h | ⟨o, h⟩) | h
  · exact .inl (.inl (e.trans h))
  · exact .inl (.inr ⟨o, e.trans h⟩)
  · exact .inr h
mutual
theorem Rep.thaw {K : PySem.W.Frag} {F : Hp} {m : List Addr} {ps : List Addr} (hp : ∀ a ∈ ps, ∃ xs, F a = some (.lst xs)) : ∀ (d : D) (v : V), imm d = true → Rep K F m d v → Rep K (thaw F ps) m d v
  | .non, v, _, h => by simpa only [Rep] using h
  | .bl b, v, _, h => by simpa only [Rep] using h
  | .int i, v, _, h => by simpa only [Rep] using h
  | .str x, v, _, h => by simpa only [Rep] using h
  | .tup ds, v, hi, h => by
    simp only [Rep] at h ⊢
    simp only [imm] at hi
    obtain ⟨p, xs, e, q, z, r⟩ := h
    exact ⟨p, xs, e, SqT.thaw hp q, z, RepL.thaw hp ds xs hi r⟩
  | .lst ds, v, hi, h => by simp only [imm] at hi; cases hi
  | .dic ks vs, v, hi, h => by simp only [imm] at hi; cases hi
  | .ins cl ns ds, v, hi, h => by
    simp only [Rep] at h ⊢
    simp only [imm] at hi
    obtain ⟨p, dx, fs, e, q, z, r⟩ := h
    exact ⟨p, dx, fs, e, thaw_keep q hp (fun _ z => by cases z), z, RepL.thaw hp ds _ hi r⟩
  | .exc cl d, v, hi, h => by
    simp only [Rep] at h ⊢
    simp only [imm] at hi
    obtain ⟨p, dx, x, e, q, z, r⟩ := h
    exact ⟨p, dx, x, e, thaw_keep q hp (fun _ => exq_lst), thaw_keep z hp (fun _ z => by cases z), Rep.thaw hp d x hi r⟩
  | .cel i, v, hi, h => by simpa only [Rep] using h
  | .scr ns, v, hi, h => by simp only [imm] at hi; cases hi
theorem RepL.thaw {K : PySem.W.Frag} {F : Hp} {m : List Addr} {ps : List Addr} (hp : ∀ a ∈ ps, ∃ xs, F a = some (.lst xs)) : ∀ (ds : List D) (vs : List V), immL ds = true → RepL K F m ds vs → RepL K (thaw F ps) m ds vs
  | [], vs, _, h => by simpa only [RepL] using h
  | d :: ds, vs, hi, h => by
    simp only [RepL] at h ⊢
    simp only [immL, Bool.and_eq_true] at hi
    obtain ⟨x, xs, e, r, q⟩ := h
    exact ⟨x, xs, e, Rep.thaw hp d x hi.1 r, RepL.thaw hp ds xs hi.2 q⟩
end

theorem CelIs.thaw {K : PySem.W.Frag} {F H : Hp} {m : List Addr} {ps : List Addr} {a : Addr} {c : Cel} (hp : ∀ a ∈ ps, ∃ xs, F a = some (.lst xs)) (hi : immC c = true) (h : CelIs K F H m a c) : CelIs K (EV.thaw F ps) H m a c := by
  cases c with
  | ls ds => obtain ⟨xs, e1, e2, e3⟩ := h; exact ⟨xs, e1, e2, e3.thaw hp _ _ hi⟩
  | ob c ns vs => obtain ⟨dx, fs, e1, e2, e3⟩ := h; exact ⟨dx, fs, e1, e2, e3.thaw hp _ _ hi⟩
  | tb n q =>
    obtain ⟨h0, tps, e1, e2, e3⟩ := h
    refine ⟨h0, tps, e1, e2, fun pos cv hc => ?_⟩
    obtain ⟨c, e4, e5⟩ := e3 pos cv hc
    exact ⟨c, e4, thaw_keep e5 hp (fun _ z => by unfold LamX.CodeO at z; cases z)⟩
/-! ### a body's slots -/
abbrev SEn := List (Option B)
structure SEnv (K : PySem.W.Frag) (H0 F H : Hp) (m : List Addr) (ρ : SEn) (σ : St) : Prop where
  len : ρ.length = σ.length
  get : ∀ (i : Nat) b, ρ[i]? = some (some b) → ∃ v, σ[i]? = some (some v) ∧ RepB K H0 F H m b v
  dis : ∀ (i j : Nat) a b p, i ≠ j → ρ[i]? = some (some (a, true)) → ρ[j]? = some (some (b, true)) → σ[i]? = some (some (.ref p)) → σ[j]? ≠ some (some (.ref p))
/-- what an expression sees: of one's own lists those at ms alone -/
def viewB (keep : Bool) : Option B → Option D
  | some (d, false) => some d
  | some (d, true) => if keep then some d else none
  | none => none
def view (ms : List Nat) (ρ : SEn) : En := (List.range ρ.length).map fun i => viewB (ms.contains i) (ρ.getD i none)
/-- one's own lists at ms are one's own no more -/
def giveB (keep : Bool) : Option B → Option B
  | some (d, o) => some (d, o && !keep)
  | none => none
def give (ms : List Nat) (ρ : SEn) : SEn := (List.range ρ.length).map fun i => giveB (ms.contains i) (ρ.getD i none)
def immB (b : B) : Bool := match b with
  | (.lst ds, true) => immL ds
  | (d, _) => imm d
def ownAt (ρ : SEn) (i : Nat) : Bool := match ρ[i]? with
  | some (some (_, true)) => true
  | _ => false
/-- behind an expression's value -/
def after (ms : List Nat) (ρ : SEn) (b : B) : SEn := if ms.any (ownAt ρ) && !immB b then give ms ρ else ρ
def ex1 (ms : List Nat) (f : SE) (ca : Ca) (ρ : SEn) (S : Cells) : R (B × SEn) := (f ca (view ms ρ) S).bind fun b S => .ok (b, after ms ρ b) S
theorem view_get {ms : List Nat} {ρ : SEn} {i : Nat} : (view ms ρ)[i]? = (ρ[i]?).map (viewB (ms.contains i)) := by
  unfold view
  rw [List.getElem?_map]
  by_cases h : i < ρ.length
  · rw [List.getElem?_range h]
    simp [List.getD_eq_getElem?_getD, h]
  · rw [List.getElem?_eq_none (by simp; omega), List.getElem?_eq_none (by omega)]; rfl
theorem give_get {ms : List Nat} {ρ : SEn} {i : Nat} : (give ms ρ)[i]? = (ρ[i]?).map (giveB (ms.contains i)) := by
  unfold give
  rw [List.getElem?_map]
  by_cases h : i < ρ.length
  · rw [List.getElem?_range h]
    simp [List.getD_eq_getElem?_getD, h]
  · rw [List.getElem?_eq_none (by simp; omega), List.getElem?_eq_none (by omega)]; rfl
theorem view_len {ms : List Nat} {ρ : SEn} : (view ms ρ).length = ρ.length := by unfold view; simp
theorem give_len {ms : List Nat} {ρ : SEn} : (give ms ρ).length = ρ.length := by unfold give; simp

section
variable {K : PySem.W.Frag} {F0 H0 F H F' H' : Hp} {m0 m m' : List Addr} {S S' : Cells} {ρ : SEn} {σ : St} {ms : List Nat}
/-- where one's own lists at ms stand -/
def ownPs (ms : List Nat) (ρ : SEn) (σ : St) : List Addr := ms.filterMap fun i => match ρ[i]?, σ[i]? with
  | some (some (_, true)), some (some (V.ref p)) => some p
  | _, _ => none
theorem mem_ownPs {p : Addr} (h : p ∈ ownPs ms ρ σ) : ∃ i d, i ∈ ms ∧ ρ[i]? = some (some (d, true)) ∧ σ[i]? = some (some (.ref p)) := by
  unfold ownPs at h
  obtain ⟨i, hi, e⟩ := List.mem_filterMap.mp h
  split at e
  · rename_i d q h1 h2
    cases e
    exact ⟨i, d, hi, h1, h2⟩
  · cases e
theorem ownPs_mem {i : Nat} {d : D} {p : Addr} (h : i ∈ ms) (h1 : ρ[i]? = some (some (d, true))) (h2 : σ[i]? = some (some (.ref p))) : p ∈ ownPs ms ρ σ := by
  unfold ownPs
  exact List.mem_filterMap.mpr ⟨i, h, by rw [h1, h2]⟩
theorem SEnv.ownAt (s : SEnv K H0 F H m ρ σ) {p : Addr} (h : p ∈ ownPs ms ρ σ) : ∃ i ds xs, i ∈ ms ∧ ρ[i]? = some (some (.lst ds, true)) ∧ σ[i]? = some (some (.ref p)) ∧ H0 p = none ∧ H p = some (.lst xs) ∧ F p = none ∧ p ∉ m ∧ xs.length ≤ sizeLine ∧ RepL K F m ds xs := by
  obtain ⟨i, d, h1, h2, h3⟩ := mem_ownPs h
  obtain ⟨v, h4, q, xs, ds, e1, e2, r⟩ := s.get i _ h2
  rw [h3] at h4; cases h4; cases e2
  have e1' : d = .lst ds := e1
  subst e1'
  exact ⟨i, ds, xs, h1, h2, h3, r⟩
/-- F with one's own lists at ms frozen -/
def frzM (F H : Hp) (ps : List Addr) : Hp := fun a => if a ∈ ps then H a else F a
theorem frzM_sub (s : SEnv K H0 F H m ρ σ) : Sub F (frzM F H (ownPs ms ρ σ)) := fun a o e => by
  unfold frzM
  split
  · rename_i hm
    obtain ⟨_, _, _, _, _, _, _, _, h, _⟩ := s.ownAt hm
    rw [h] at e; cases e
  · exact e
theorem frzM_gr (g : Gr K F0 H0 m0 F H m S) (s : SEnv K H0 F H m ρ σ) : Gr K F0 H0 m0 (frzM F H (ownPs ms ρ σ)) H m S := by
  refine ⟨⟨fun a o e => ?_, g.w.len, g.w.nd, fun i a ds h1 h2 => ?_, g.w.im⟩, g.up.trans (frzM_sub s), g.ext, fun a o h1 h2 h3 => ?_⟩
  · unfold frzM at e
    split at e
    · exact e
    · exact g.w.sub a o e
  · obtain ⟨q1, q2⟩ := g.w.cel i a ds h1 h2
    refine ⟨?_, q2.keep (frzM_sub s) Ext.refl rfl⟩
    unfold frzM
    rw [if_neg fun hm => ?_]
    · exact q1
    · obtain ⟨_, _, _, _, _, _, _, _, _, h, _⟩ := s.ownAt hm
      exact h (List.mem_of_getElem? h1)
  · obtain ⟨q1, q2, q3⟩ := g.frm a o h1 h2 h3
    refine ⟨q1, ?_, q3⟩
    unfold frzM
    rw [if_neg fun hm => ?_]
    · exact q2
    · obtain ⟨_, _, _, _, _, _, h, _⟩ := s.ownAt hm
      rw [h] at h1; cases h1
theorem SEnv.view (s : SEnv K H0 F H m ρ σ) : REnv K (frzM F H (ownPs ms ρ σ)) m (EV.view ms ρ) σ := by
  refine ⟨by rw [view_len]; exact s.len, fun i d e => ?_⟩
  rw [view_get] at e
  cases h : ρ[i]? with
  | none => rw [h] at e; cases e
  | some b =>
    rw [h] at e
    cases b with
    | none => cases e
    | some b =>
      obtain ⟨d', o⟩ := b
      obtain ⟨v, h1, h2⟩ := s.get i _ h
      refine ⟨v, h1, ?_⟩
      cases o with
      | false =>
        have e' : some (some d') = some (some d) := e
        cases e'
        exact Rep.up (frzM_sub s) Ext.refl _ _ h2
      | true =>
        have e' : some (if ms.contains i then some d' else none) = some (some d) := e
        split at e'
        · rename_i hc
          cases e'
          obtain ⟨p, xs, ds, e1, e2, q1, q2, q3, q4, q5, q6⟩ := h2
          have e1' : d = .lst ds := e1
          subst e1' e2
          simp only [Rep]
          refine ⟨p, xs, rfl, ?_, q5, q6.up (frzM_sub s) Ext.refl⟩
          unfold frzM
          rw [if_pos (ownPs_mem (by simpa using hc) h h1)]
          exact q2
        · cases e'

theorem frzM_at (s : SEnv K H0 F H m ρ σ) : ∀ a ∈ ownPs ms ρ σ, ∃ xs, frzM F H (ownPs ms ρ σ) a = some (.lst xs) := fun a ha => by
  obtain ⟨_, _, xs, _, _, _, _, h, _⟩ := s.ownAt ha
  exact ⟨xs, by unfold frzM; rw [if_pos ha]; exact h⟩
/-- what stands behind an expression, one's own lists at ms being given away -/
theorem SEnv.given (s : SEnv K H0 F H m ρ σ) (g : Gr K (frzM F H (ownPs ms ρ σ)) H m F' H' m' S') : SEnv K H0 F' H' m' (give ms ρ) σ := by
  refine ⟨by rw [give_len]; exact s.len, fun i b e => ?_, fun i j a b p hij h1 h2 h3 => ?_⟩
  · rw [give_get] at e
    cases h : ρ[i]? with
    | none => rw [h] at e; cases e
    | some c =>
      rw [h] at e
      cases c with
      | none => cases e
      | some c =>
        obtain ⟨d, o⟩ := c
        have e' : some (some (d, o && !ms.contains i)) = some (some b) := e
        cases e'
        obtain ⟨v, q1, q2⟩ := s.get i _ h
        refine ⟨v, q1, ?_⟩
        cases o with
        | false => exact Rep.gr g (Rep.up (frzM_sub s) Ext.refl _ _ q2)
        | true =>
          obtain ⟨p, xs, ds, e1, e2, z1, z2, z3, z4, z5, z6⟩ := q2
          have e1' : d = .lst ds := e1
          subst e1' e2
          cases hc : ms.contains i with
          | true =>
            show Rep K F' m' (.lst ds) (.ref p)
            refine Rep.gr g ?_
            simp only [Rep]
            refine ⟨p, xs, rfl, ?_, z5, z6.up (frzM_sub s) Ext.refl⟩
            unfold frzM
            rw [if_pos (ownPs_mem (by simpa using hc) h q1)]
            exact z2
          | false =>
            have hn : p ∉ ownPs ms ρ σ := fun hm => by
              obtain ⟨j, ds', _, hj, h5, h6, _⟩ := s.ownAt hm
              by_cases hij : i = j
              · subst hij
                have : ms.contains i = true := by simpa using hj
                rw [hc] at this; cases this
              · exact s.dis i j _ _ p hij h h5 q1 h6
            have hf : frzM F H (ownPs ms ρ σ) p = none := by unfold frzM; rw [if_neg hn]; exact z3
            obtain ⟨y1, y2, y3⟩ := g.frm p _ z2 hf z4
            exact ⟨p, xs, ds, rfl, rfl, z1, y1, y2, y3, z5, (z6.up (frzM_sub s) Ext.refl).gr g⟩
  · rw [give_get] at h1 h2
    have key : ∀ (k : Nat) (a : D), (ρ[k]?).map (giveB (ms.contains k)) = some (some (a, true)) → ρ[k]? = some (some (a, true)) := fun k a e => by
      cases h : ρ[k]? with
      | none => rw [h] at e; cases e
      | some c =>
        rw [h] at e
        cases c with
        | none => cases e
        | some c =>
          obtain ⟨d, o⟩ := c
          have e' : some (some (d, o && !ms.contains k)) = some (some (a, true)) := e
          cases o with
          | false => cases e'
          | true =>
            have e2 := congrArg (fun z => z) e'
            simp only [Option.some.injEq, Prod.mk.injEq] at e2
            rw [e2.1]
    exact s.dis i j a b p hij (key i a h1) (key j b h2) h3
/-- .. being kept -/
theorem SEnv.kept (s : SEnv K H0 F H m ρ σ) (g : Gr K (frzM F H (ownPs ms ρ σ)) H m F' H' m' S') : SEnv K H0 (thaw F' (ownPs ms ρ σ)) H' m' ρ σ := by
  have sb : Sub F (thaw F' (ownPs ms ρ σ)) := fun a o e => by
    have h1 := g.up a o (frzM_sub s a o e)
    unfold thaw
    rw [if_neg fun hm => ?_]
    · exact h1
    · obtain ⟨_, _, _, _, _, _, _, _, h, _⟩ := s.ownAt hm
      rw [h] at e; cases e
  refine ⟨s.len, fun i b h => ?_, s.dis⟩
  obtain ⟨v, q1, q2⟩ := s.get i _ h
  refine ⟨v, q1, ?_⟩
  obtain ⟨d, o⟩ := b
  cases o with
  | false => exact Rep.up sb g.ext _ _ q2
  | true =>
    obtain ⟨p, xs, ds, e1, e2, z1, z2, z3, z4, z5, z6⟩ := q2
    have e1' : d = .lst ds := e1
    subst e1' e2
    by_cases hm : p ∈ ownPs ms ρ σ
    · have hf : frzM F H (ownPs ms ρ σ) p = some (.lst xs) := by unfold frzM; rw [if_pos hm]; exact z2
      refine ⟨p, xs, ds, rfl, rfl, z1, g.w.sub _ _ (g.up _ _ hf), by unfold thaw; rw [if_pos hm], fun hmm => ?_, z5, z6.up sb g.ext⟩
      obtain ⟨i, hi⟩ := List.mem_iff_getElem?.mp hmm
      have hlt : i < S'.length := by rw [← g.w.len]; exact (List.getElem?_eq_some_iff.mp hi).1
      have := (g.w.cel i p _ hi (List.getElem?_eq_getElem hlt)).1
      rw [g.up _ _ hf] at this; cases this
    · have hf : frzM F H (ownPs ms ρ σ) p = none := by unfold frzM; rw [if_neg hm]; exact z3
      obtain ⟨y1, y2, y3⟩ := g.frm p _ z2 hf z4
      refine ⟨p, xs, ds, rfl, rfl, z1, y1, ?_, y3, z5, z6.up sb g.ext⟩
      unfold thaw
      rw [if_neg hm]; exact y2
theorem thaw_gr (g0 : Gr K F0 H0 m0 F H m S) (s : SEnv K H0 F H m ρ σ) (g : Gr K (frzM F H (ownPs ms ρ σ)) H m F' H' m' S') : Gr K F0 H0 m0 (thaw F' (ownPs ms ρ σ)) H' m' S' := by
  have G := (frzM_gr (ms := ms) g0 s).trans g
  have hp : ∀ a ∈ ownPs ms ρ σ, ∃ xs, F' a = some (.lst xs) := fun a ha => by
    obtain ⟨xs, e⟩ := frzM_at s a ha
    exact ⟨xs, g.up _ _ e⟩
  refine ⟨⟨fun a o e => G.w.sub a o (thaw_sub a o e), G.w.len, G.w.nd, fun i a ds h1 h2 => ?_, G.w.im⟩, fun a o e => ?_, G.ext, fun a o h1 h2 h3 => ?_⟩
  · obtain ⟨q1, q2⟩ := G.w.cel i a ds h1 h2
    refine ⟨?_, CelIs.thaw hp (G.w.im i ds h2) q2⟩
    unfold thaw
    split
    · rfl
    · exact q1
  · have h1 := G.up a o e
    unfold thaw
    rw [if_neg fun hm => ?_]
    · exact h1
    · obtain ⟨_, _, _, _, _, _, _, _, h, _⟩ := s.ownAt hm
      rw [g0.up a o e] at h; cases h
  · obtain ⟨q1, q2, q3⟩ := G.frm a o h1 h2 h3
    refine ⟨q1, ?_, q3⟩
    unfold thaw
    split
    · rfl
    · exact q2
/-- what is told of a value that is no list of one's slots -/
def Apart (ρ : SEn) (σ : St) (b : B) (v : V) : Prop := b.2 = true → ∀ (i : Nat) a, ρ[i]? = some (some (a, true)) → σ[i]? ≠ some (some v)
/-- an expression of a statement -/
theorem stEx {W : WX} {f : SE} {ca : Ca} {Q : VK} (g : Gr K F0 H0 m0 F H m S) (s : SEnv K H0 F H m ρ σ)
    (h : Post K W σ F0 H0 m0 (ex1 ms f ca ρ S) fun r _ F' H' m' => ∀ v, SEnv K H0 F' H' m' r.2 σ → RepB K H0 F' H' m' r.1 v → Apart r.2 σ r.1 v → Q v H') : tE K W (f ca) σ H Q := by
  refine ⟨view ms ρ, S, frzM F H (ownPs ms ρ σ), m, (frzM_gr (ms := ms) g s).w, s.view, ?_⟩
  have G0 := frzM_gr (ms := ms) g s
  cases e : f ca (view ms ρ) S with
  | no => unfold ex1 at h; rw [e] at h; exact h
  | exn c d S' => unfold ex1 at h; rw [e] at h; exact Wish.gr G0 h
  | ok b S' =>
    unfold ex1 at h
    rw [e] at h
    intro F' H' m' g' v rv
    have G := G0.trans g'
    have rv0 : RepB K H0 F' H' m' b v := RepB.weak G0 rv
    have hp : ∀ a ∈ ownPs ms ρ σ, ∃ xs, F' a = some (.lst xs) := fun a ha => by
      obtain ⟨xs, e⟩ := frzM_at s a ha
      exact ⟨xs, g'.up _ _ e⟩
    have apart : ∀ (i : Nat) a, ρ[i]? = some (some (a, true)) → b.2 = true → σ[i]? ≠ some (some v) := fun i a hi hb hv => by
      obtain ⟨d, o⟩ := b
      have hb' : o = true := hb
      subst hb'
      obtain ⟨p, xs, ds, e1, e2, z1, _⟩ := rv
      subst e2
      obtain ⟨v', y1, p', xs', ds', e1', e2', _, y2, _⟩ := s.get i _ hi
      rw [hv] at y1; cases y1; cases e2'
      rw [z1] at y2; cases y2
    have P : Post K W σ F0 H0 m0 (.ok (b, after ms ρ b) S') fun r _ F' H' m' => ∀ v, SEnv K H0 F' H' m' r.2 σ → RepB K H0 F' H' m' r.1 v → Apart r.2 σ r.1 v → Q v H' := h
    by_cases hi : immB b = true
    · have ea : after ms ρ b = ρ := by unfold after; rw [hi]; simp
      rw [ea] at P
      refine P _ H' m' (thaw_gr g s g') v (s.kept g') ?_ fun hb i a hi' => apart i a hi' hb
      obtain ⟨d, o⟩ := b
      cases o with
      | false =>
        have hi2 : imm d = true := by
          unfold immB at hi
          split at hi
          · rename_i heq; cases heq
          · rename_i heq; cases heq; exact hi
        exact Rep.thaw hp d v hi2 rv0
      | true =>
        obtain ⟨p, xs, ds, e1, e2, z1, z2, z3, z4, z5, z6⟩ := rv0
        have e1' : d = .lst ds := e1
        subst e1'
        refine ⟨p, xs, ds, rfl, e2, z1, z2, ?_, z4, z5, z6.thaw hp _ _ hi⟩
        unfold thaw
        split
        · rfl
        · exact z3
    · by_cases hm : ms.any (EV.ownAt ρ) = true
      · have ea : after ms ρ b = give ms ρ := by unfold after; rw [hm]; simp [hi]
        rw [ea] at P
        refine P F' H' m' G v (s.given g') rv0 fun hb i a hi' => ?_
        rw [give_get] at hi'
        cases h : ρ[i]? with
        | none => rw [h] at hi'; cases hi'
        | some c =>
          rw [h] at hi'
          cases c with
          | none => cases hi'
          | some c =>
            obtain ⟨d, o⟩ := c
            cases o with
            | false =>
              have e' : some (some (d, false && !ms.contains i)) = some (some (a, true)) := hi'
              cases e'
            | true => exact apart i d h hb
      · have ea : after ms ρ b = ρ := by unfold after; simp [hm]
        rw [ea] at P
        have eps : ownPs ms ρ σ = [] := by
          cases hq : ownPs ms ρ σ with
          | nil => rfl
          | cons p ps =>
            obtain ⟨i, d, h1, h2, _⟩ := mem_ownPs (ms := ms) (ρ := ρ) (σ := σ) (p := p) (by rw [hq]; exact List.mem_cons_self)
            exact absurd (List.any_eq_true.mpr ⟨i, h1, by unfold EV.ownAt; rw [h2]⟩) hm
        have K1 := s.kept g'
        have e2 : thaw F' (ownPs ms ρ σ) = F' := by funext a; unfold thaw; rw [eps]; simp
        rw [e2] at K1
        exact P F' H' m' G v K1 rv0 fun hb i a hi' => apart i a hi' hb
end
end EV

namespace EV
open PySem PySem.Spec PyProof.Rows L2

/-! ### statements -/
inductive Fl where
  | nx (ρ : SEn)
  | rt (b : B)
  | bk (ρ : SEn)
  | ct (ρ : SEn)
abbrev SS := Ca → SEn → Cells → R Fl
def PostS (K : PySem.W.Frag) (E : XK) (F0 H0 : Hp) (m0 : List Addr) (r : R Fl) (Dn : Ends) : Prop :=
  match r with
  | .ok (.nx ρ) S => ∀ σ F H m, Gr K F0 H0 m0 F H m S → SEnv K H0 F H m ρ σ → Dn.nx σ H
  | .ok (.bk ρ) S => ∀ σ F H m, Gr K F0 H0 m0 F H m S → SEnv K H0 F H m ρ σ → Dn.bk σ H
  | .ok (.ct ρ) S => ∀ σ F H m, Gr K F0 H0 m0 F H m S → SEnv K H0 F H m ρ σ → Dn.ct σ H
  | .ok (.rt b) S => ∀ v F H m, Gr K F0 H0 m0 F H m S → RepB K H0 F H m b v → Dn.rt v H
  | .exn c d S => Wish K (fun c d _ H => E c d H) [] F0 H0 m0 c d S
  | .no => False
def tS (K : PySem.W.Frag) (E : XK) (F0 H0 : Hp) (m0 : List Addr) (f : SEn → Cells → R Fl) : TS := fun Dn σ H => ∃ ρ S F m, Gr K F0 H0 m0 F H m S ∧ SEnv K H0 F H m ρ σ ∧ PostS K E F0 H0 m0 (f ρ S) Dn
structure CtxS (X : Cx) (sc : Scope) (N : List Str) (pg : Pg) (ca : Ca) (lev : Nat) (E : XK) : Prop where
  c : Ctx X sc N pg ca lev (fun c d _ H => E c d H)
  fn : ∀ x, X.fn x = true
  own : PassesOwn (model X.prog X.w) X.A X.env X.xe
def OkS (pg : Pg) (N : List Str) (sc : Scope) (st : Stmt) (f : SS) : Prop := ∀ X ca lev E F0 H0 m0, CtxS X sc N pg ca lev E → PS X st (tS X.K E F0 H0 m0 (f ca))
def OkSs (pg : Pg) (N : List Str) (sc : Scope) (st : List Stmt) (f : SS) : Prop := ∀ X ca lev E F0 H0 m0, CtxS X sc N pg ca lev E → PSs X st (tS X.K E F0 H0 m0 (f ca))
theorem wish_sig {K : PySem.W.Frag} {E : XK} {σ σ' : St} {F H : Hp} {m : List Addr} {c : Str} {d : D} {S : Cells} (h : Wish K (fun c d _ H => E c d H) σ F H m c d S) : Wish K (fun c d _ H => E c d H) σ' F H m c d S := h
/-- an expression, then what follows -/
theorem postS_ex {α : Type} {K : PySem.W.Frag} {E : XK} {σ : St} {F0 H0 : Hp} {m0 : List Addr} {Dn : Ends} {r : R α} {k : α → Cells → R Fl} (h : PostS K E F0 H0 m0 (r.bind k) Dn) :
    Post K (fun c d _ H => E c d H) σ F0 H0 m0 r fun a S1 _ _ _ => PostS K E F0 H0 m0 (k a S1) Dn := by
  cases r with
  | ok a S => exact fun _ _ _ _ => h
  | exn c d S => exact h
  | no => exact h
section
variable {pg : Pg} {N : List Str} {sc : Scope}
def sPass : SS := fun _ ρ S => .ok (.nx ρ) S
def sSeq (f g : SS) : SS := fun ca ρ S => (f ca ρ S).bind fun fl S => match fl with
  | .nx ρ => g ca ρ S
  | fl => .ok fl S
def sRet (ms : List Nat) (f : SE) : SS := fun ca ρ S => (ex1 ms f ca ρ S).bind fun r S => .ok (.rt r.1) S
def sRetN : SS := fun _ _ S => .ok (.rt (.non, false)) S
def sExpr (ms : List Nat) (f : SE) : SS := fun ca ρ S => (ex1 ms f ca ρ S).bind fun r S => .ok (.nx r.2) S
def sSet (i : Nat) (ms : List Nat) (f : SE) : SS := fun ca ρ S => (ex1 ms f ca ρ S).bind fun r S => if i < r.2.length then .ok (.nx (r.2.set i (some r.1))) S else .no
def exT (ms : List Nat) (t : ST) (ca : Ca) (ρ : SEn) (S : Cells) : R Bool := t ca (view ms ρ) S
def sIf (ms : List Nat) (t : ST) (f g : SS) : SS := fun ca ρ S => (exT ms t ca ρ S).bind fun b S => match b with
  | true => f ca ρ S
  | false => g ca ρ S
theorem okPass {pos : Pos} : OkS pg N sc (.Pass pos) sPass := fun X ca lev E F0 H0 m0 C => PS.imp ps_pass fun Dn σ H ⟨ρ, S, F, m, g, s, q⟩ => q σ F H m g s
theorem okSsNil : OkSs pg N sc [] sPass := fun X ca lev E F0 H0 m0 C => PSs.imp pss_nil fun Dn σ H ⟨ρ, S, F, m, g, s, q⟩ => q σ F H m g s
theorem okSsOne {st : Stmt} {f : SS} (h : OkS pg N sc st f) : OkSs pg N sc [st] f := fun X ca lev E F0 H0 m0 C => pss_one (h X ca lev E F0 H0 m0 C)
theorem okSsCons {st : Stmt} {sts : List Stmt} {f g : SS} (h : OkS pg N sc st f) (k : OkSs pg N sc sts g) : OkSs pg N sc (st :: sts) (sSeq f g) := fun X ca lev E F0 H0 m0 C =>
  PSs.imp (pss_cons (h X ca lev E F0 H0 m0 C) (k X ca lev E F0 H0 m0 C)) fun Dn σ H ⟨ρ, S, F, m, gr, s, q⟩ => by
    refine ⟨ρ, S, F, m, gr, s, ?_⟩
    unfold sSeq at q
    cases e : f ca ρ S with
    | no => rw [e] at q; exact q
    | exn c d S1 => rw [e] at q; exact q
    | ok fl S1 =>
      rw [e] at q
      cases fl with
      | nx ρ1 => exact fun σ1 F1 H1 m1 g1 s1 => ⟨ρ1, S1, F1, m1, g1, s1, q⟩
      | rt b => exact q
      | bk ρ1 => exact q
      | ct ρ1 => exact q
theorem okRet {e : Expr} {ms : List Nat} {f : SE} {pos : Pos} (h : OkE pg N sc e f) : OkS pg N sc (.Return (some e) pos) (sRet ms f) := fun X ca lev E F0 H0 m0 C =>
  PS.imp (ps_ret (h X ca lev _ C.c)) fun Dn σ H ⟨ρ, S, F, m, g, s, q⟩ => stEx g s (Post.mono (postS_ex q) fun r S1 F1 H1 m1 e1 g1 q1 v s1 rv _ => q1 v F1 H1 m1 g1 rv)
theorem okRetN {pos : Pos} : OkS pg N sc (.Return none pos) sRetN := fun X ca lev E F0 H0 m0 C =>
  PS.imp ps_retN fun Dn σ H ⟨ρ, S, F, m, g, s, q⟩ => q .non F H m g (by show Rep _ _ _ _ _; simp only [Rep])
def notComp : Expr → Bool
  | .ListComp .. => false
  | .SetComp .. => false
  | .DictComp .. => false
  | _ => true
theorem notComp_sw {e : Expr} {o : Option Expr} {l : Nat} {env : Env} (h : notComp e = true) : swapsWith e o l env = pure false := by
  cases e <;> first | rfl | cases h
theorem okExpr {e : Expr} {ms : List Nat} {f : SE} {pos : Pos} (hn : notComp e = true) (h : OkE pg N sc e f) : OkS pg N sc (.Expr e pos) (sExpr ms f) := fun X ca lev E F0 H0 m0 C =>
  PS.imp (ps_expr (h X ca lev _ C.c) (notComp_sw hn)) fun Dn σ H ⟨ρ, S, F, m, g, s, q⟩ => stEx g s (Post.mono (postS_ex q) fun r S1 F1 H1 m1 e1 g1 q1 v s1 rv _ => q1 σ F1 H1 m1 g1 s1)
theorem SEnv.set {K : PySem.W.Frag} {H0 F H : Hp} {m : List Addr} {ρ : SEn} {σ : St} {i : Nat} {b : B} {v : V} (s : SEnv K H0 F H m ρ σ) (rv : RepB K H0 F H m b v) (ap : Apart ρ σ b v) : SEnv K H0 F H m (ρ.set i (some b)) (σ.set i (some v)) := by
  have hl := s.len
  refine ⟨by simp [hl], fun j c hj => ?_, fun j k a c p hjk h1 h2 h3 h4 => ?_⟩
  · by_cases hij : i = j
    · subst hij
      by_cases hlt : i < ρ.length
      · rw [List.getElem?_set_self hlt] at hj
        cases hj
        exact ⟨v, List.getElem?_set_self (by omega), rv⟩
      · rw [List.getElem?_eq_none (by simp; omega)] at hj; cases hj
    · rw [List.getElem?_set_ne hij] at hj
      rw [List.getElem?_set_ne hij]
      exact s.get j c hj
  · by_cases hij : i = j
    · subst hij
      have hlt : i < ρ.length := by
        have := (List.getElem?_eq_some_iff.mp h1).1
        simpa using this
      rw [List.getElem?_set_self hlt] at h1
      rw [List.getElem?_set_self (by omega)] at h3
      rw [List.getElem?_set_ne hjk] at h2 h4
      cases h1; cases h3
      exact ap rfl k c h2 h4
    · rw [List.getElem?_set_ne hij] at h1 h3
      by_cases hik : i = k
      · subst hik
        have hlt : i < ρ.length := by
          have := (List.getElem?_eq_some_iff.mp h2).1
          simpa using this
        rw [List.getElem?_set_self hlt] at h2
        rw [List.getElem?_set_self (by omega)] at h4
        cases h2; cases h4
        exact ap rfl j a h1 h3
      · rw [List.getElem?_set_ne hik] at h2 h4
        exact s.dis j k a c p hjk h1 h2 h3 h4
def locB (sc : Scope) (x : Str) : Bool := match sc.names.lookup x with
  | some .local => true
  | some .cell => true
  | _ => false
theorem locB_ok {x : Str} (h : locB sc x = true) : Loc sc x := by
  unfold locB at h
  split at h
  · exact .inl (by assumption)
  · exact .inr (by assumption)
  · cases h
theorem set_fin {X : Cx} {E : XK} {F0 H0 : Hp} {m0 : List Addr} {ca : Ca} {i : Nat} {ms : List Nat} {f : SE} {Dn : Ends} {σ : St} {H : Hp} (h : tS X.K E F0 H0 m0 (sSet i ms f ca) Dn σ H) : tAsg (tE X.K (fun c d _ H => E c d H) (f ca)) (gName i) Dn σ H := by
  obtain ⟨ρ, S, F, m, g, s, q⟩ := h
  refine stEx g s (Post.mono (postS_ex q) fun r S1 F1 H1 m1 e1 g1 q1 v s1 rv ap => ?_)
  split at q1
  · exact q1 _ F1 H1 m1 g1 (s1.set rv ap)
  · exact q1.elim
theorem okSet {x : Str} {i : Nat} {e : Expr} {ms : List Nat} {f : SE} {pos pos' : Pos} (hi : slot? N x = some i) (hx : locB sc x = true) (hn : notComp e = true) (h : OkE pg N sc e f) : OkS pg N sc (.Assign [.Name x pos'] e pos) (sSet i ms f) := fun X ca lev E F0 H0 m0 C =>
  PS.imp (ps_set C.c.nd (by rw [C.c.names]; exact slot_ok hi) (by rw [C.c.sc]; exact locB_ok hx) (h X ca lev _ C.c) (notComp_sw hn) (.inl (C.fn x))) fun Dn σ H h => set_fin h
theorem stT {W : WX} {K : PySem.W.Frag} {F0 H0 F H : Hp} {m0 m : List Addr} {S : Cells} {ρ : SEn} {σ : St} {ms : List Nat} {t : ST} {ca : Ca} {Q : Bool → Hp → Prop} (g : Gr K F0 H0 m0 F H m S) (s : SEnv K H0 F H m ρ σ)
    (h : Post K W σ F0 H0 m0 (exT ms t ca ρ S) fun b _ F' H' m' => SEnv K H0 F' H' m' ρ σ → Q b H') : tT K W (t ca) σ H Q := by
  have G0 := frzM_gr (ms := ms) g s
  refine ⟨view ms ρ, S, _, m, G0.w, s.view, ?_⟩
  unfold exT at h
  cases e : t ca (view ms ρ) S with
  | no => rw [e] at h; exact h
  | exn c d S' => rw [e] at h; exact Wish.gr G0 h
  | ok b S' =>
    rw [e] at h
    exact fun F' H' m' g' => h _ H' m' (thaw_gr g s g') (s.kept g')
theorem okIfS {c : Expr} {a b : List Stmt} {ms : List Nat} {t : ST} {f g : SS} {pos : Pos} (hc : OkT pg N sc c t) (ha : OkSs pg N sc a f) (hb : OkSs pg N sc b g) : OkS pg N sc (.If c a b pos) (sIf ms t f g) := fun X ca lev E F0 H0 m0 C =>
  PS.imp (ps_if (hc X ca lev _ C.c) (ha X ca lev E F0 H0 m0 C) (hb X ca lev E F0 H0 m0 C)) fun Dn σ H ⟨ρ, S, F, m, gr, s, q⟩ => by
    refine stT gr s (Post.mono (postS_ex q) fun b S1 F1 H1 m1 e1 g1 q1 s1 => ?_)
    cases b with
    | true => exact ⟨ρ, S1, F1, m1, g1, s1, q1⟩
    | false => exact ⟨ρ, S1, F1, m1, g1, s1, q1⟩

/-! ### name = [comprehension] -/
def lcSwaps (sc scope : Scope) (y : Str) (py pos : Pos) : Bool := (sc.names.lookup y == some .local) && (py.line == pos.line) && !(scope.names.any fun (n, k) => n == y && (k == .local || k == .cell))
theorem sw_val {elt : Expr} {gs : List Comprehension} {scope : Scope} {pos py : Pos} {y : Str} {l : Nat} {env : Env} (hk : env.scope.kind = .function) : swapsWith (.ListComp elt gs scope pos) (some (.Name y py)) l env = pure (lcSwaps env.scope scope y py pos) := by
  have hb : env.blockKind = .function := by unfold Env.blockKind; rw [hk]; rfl
  have hkd : env.kindOf y = env.scope.names.lookup y := rfl
  unfold swapsWith lcSwaps
  simp only [hb, hkd, Expr.pos]
  rfl
theorem okSetLc {x : Str} {i : Nat} {elt tg iter : Expr} {ifs : List Expr} {scope : Scope} {own : List (Str × Nat)} {pos py spos : Pos} {fi : SI} {p : Pt} {t : ST} {e : SE} {n : Nat} {ms : List Nat} (hk : sc.kind = .function) (hi' : slot? N x = some i) (hx : locB sc x = true) (hb : blkC N sc scope own = true) (hs : notSet iter = true)
    (hi : OkI pg N sc tg iter fi) (hg : tgt (ownOk N scope) n tg = some p) (hp : ptIn (own.map (·.2)) p = true) (ht : OkTs pg N (relS scope sc) ifs t) (he : OkE pg N (relS scope sc) elt e) :
    OkS pg N sc (.Assign [.Name x py] (.ListComp elt [⟨tg, iter, ifs, 0⟩] scope pos) spos) (sSet i ms (cComp fi (own.map (·.2)) p t e)) := fun X ca lev E F0 H0 m0 C => by
  have hsw := sw_val (elt := elt) (gs := [⟨tg, iter, ifs, 0⟩]) (scope := scope) (pos := pos) (py := py) (y := x) (l := spos.line) (env := X.env) (by rw [C.c.sc]; exact hk)
  cases q : lcSwaps X.env.scope scope x py pos with
  | false =>
    rw [q] at hsw
    exact PS.imp (ps_set C.c.nd (by rw [C.c.names]; exact slot_ok hi') (by rw [C.c.sc]; exact locB_ok hx) (okLc hb hs hi hg hp ht he X ca lev _ C.c) hsw (.inl (C.fn x))) fun Dn σ H h => set_fin h
  | true =>
    rw [q] at hsw
    have hloc : X.env.scope.names.lookup x = some .local := by
      unfold lcSwaps at q
      simp only [Bool.and_eq_true] at q
      exact eq_of_beq q.1.1
    refine PS.imp (ps_setLc (own := own) (g := gP X.K p) (tt := tT X.K (fun _ _ _ _ => False) (t ca)) (te := tE X.K (fun _ _ _ _ => False) (e ca)) C.c.calm C.c.nd (by rw [C.c.names]; exact slot_ok hi') hloc hsw (hi X ca lev _ C.c) (by rw [C.c.names, C.c.sc]; exact blkOk_by hb)
      (fun s H A cl fp => tgt_ok (C.c.blk s H scope cl A fp).nd (C.c.blk s H scope cl A fp).calm (fun x i h => own_st C.c h) n tg p hg)
      (fun s H A cl fp => ht _ ca lev _ (C.c.blk s H scope cl A fp)) (fun s H A cl fp => he _ ca lev _ (C.c.blk s H scope cl A fp)) (notSet_ok hs)) fun Dn σ H h => ?_
    exact lc_pre hp (set_fin h)
end
end EV

namespace EV
open PySem PySem.Spec PyProof.Rows L2

/-! ### targets of statements -/
mutual
def bindS : Pt → D → SEn → Option SEn
  | .nm i, d, ρ => if i < ρ.length then some (ρ.set i (some (d, false))) else none
  | .tp ps, d, ρ => match d with
    | .tup ds => bindSs ps ds ρ
    | _ => none
def bindSs : List Pt → List D → SEn → Option SEn
  | [], [], ρ => some ρ
  | p :: ps, d :: ds, ρ => match bindS p d ρ with
    | some ρ' => bindSs ps ds ρ'
    | none => none
  | _, _, _ => none
end
def gS (K : PySem.W.Frag) (H0 : Hp) (p : Pt) : TG := fun v σ H Q => ∃ F m d ρ ρ', Sub F H ∧ Rep K F m d v ∧ SEnv K H0 F H m ρ σ ∧ bindS p d ρ = some ρ' ∧ ∀ σ', SEnv K H0 F H m ρ' σ' → Q σ' H
def gSs (K : PySem.W.Frag) (H0 : Hp) (ps : List Pt) : TGs := fun vs σ H Q => ∃ F m ds ρ ρ', Sub F H ∧ RepL K F m ds vs ∧ SEnv K H0 F H m ρ σ ∧ bindSs ps ds ρ = some ρ' ∧ ∀ σ', SEnv K H0 F H m ρ' σ' → Q σ' H
section
variable {X : Cx} {H0 : Hp}
theorem sgNm {x : Str} {i : Nat} {pos : Pos} (hN : X.N.Nodup) (h : StOk X x i) : PG X (.Name x pos) (gS X.K H0 (.nm i)) :=
  PG.imp (pg_name hN h.1 h.2.1 h.2.2) fun v σ H Q ⟨F, m, d, ρ, ρ', sb, rd, re, hb, q⟩ => by
    simp only [bindS] at hb
    split at hb
    · cases hb
      exact q _ (re.set rd fun z => by cases z)
    · cases hb
theorem sgsNil : PGs X [] (gSs X.K H0 []) := PGs.imp pgs_nil fun vs σ H Q ⟨F, m, ds, ρ, ρ', sb, rd, re, hb, q⟩ => by
  cases ds with
  | nil =>
    simp only [RepL] at rd
    simp only [bindSs] at hb
    cases hb
    exact ⟨rd, q σ re⟩
  | cons d ds => simp only [bindSs] at hb; cases hb
theorem sgsCons {e : Expr} {es : List Expr} {p : Pt} {ps : List Pt} (hs : noStar e = true) (h1 : PG X e (gS X.K H0 p)) (h2 : PGs X es (gSs X.K H0 ps)) : PGs X (e :: es) (gSs X.K H0 (p :: ps)) :=
  PGs.imp (pgs_cons h1 h2 (by rw [assignEach_cons hs]; rfl)) fun vs σ H Q ⟨F, m, ds, ρ, ρ', sb, rd, re, hb, q⟩ => by
    cases ds with
    | nil => simp only [bindSs] at hb; cases hb
    | cons d ds =>
      simp only [RepL] at rd
      obtain ⟨x, xs, rfl, r1, r2⟩ := rd
      simp only [bindSs] at hb
      cases e1 : bindS p d ρ with
      | none => rw [e1] at hb; cases hb
      | some ρ1 =>
        rw [e1] at hb
        exact ⟨x, xs, rfl, F, m, d, ρ, ρ1, sb, r1, re, e1, fun σ1 re1 => ⟨F, m, ds, ρ1, ρ', sb, r2, re1, hb, q⟩⟩
theorem bindSs_count : ∀ (ps : List Pt) (ds : List D) (ρ ρ' : SEn), bindSs ps ds ρ = some ρ' → ds.length = ps.length
  | [], ds, ρ, ρ', h => by
    cases ds <;> simp only [bindSs] at h
    · rfl
    · cases h
  | p :: ps, ds, ρ, ρ', h => by
    cases ds with
    | nil => simp only [bindSs] at h; cases h
    | cons d ds =>
      simp only [bindSs] at h
      cases e : bindS p d ρ with
      | none => rw [e] at h; cases h
      | some ρ1 =>
        rw [e] at h
        simp [bindSs_count ps ds ρ1 ρ' h]
theorem sgTp {es : List Expr} {ps : List Pt} {k : Nat} {pos : Pos} (hc : X.calm = true) (hs : es.all noStar = true) (hl : es.length = ps.length) (h : PGs X es (gSs X.K H0 ps)) : PG X (.Tuple es k pos) (gS X.K H0 (.tp ps)) := by
  obtain ⟨h1, h2⟩ := assignEach_all (env := X.env) hs
  refine PG.imp (pg_tup (n := es.length) hc h h1 h2) fun v σ H Q ⟨F, m, d, ρ, ρ', sb, rd, re, hb, q⟩ => ?_
  cases d with
  | tup ds =>
    simp only [bindS] at hb
    simp only [Rep] at rd
    obtain ⟨a, xs, rfl, hq, hz, rl⟩ := rd
    exact ⟨a, xs, rfl, SqT.sub sb hq, by rw [← rl.length, hl]; exact bindSs_count _ _ _ _ hb, F, m, ds, ρ, ρ', sb, rl, re, hb, q⟩
  | _ => simp only [bindS] at hb; cases hb
theorem stg_ok {ok : Str → Option Nat} (hN : X.N.Nodup) (hc : X.calm = true) (h : ∀ x i, ok x = some i → StOk X x i) : ∀ (n : Nat) (e : Expr) (p : Pt), tgt ok n e = some p → PG X e (gS X.K H0 p)
  | 0, e, p, q => by cases q
  | n + 1, e, p, q => by
    unfold tgt at q
    split at q
    · cases q
    · rename_i n' x pos hn
      cases hn
      cases e1 : ok x with
      | none => rw [e1] at q; cases q
      | some i => rw [e1] at q; cases q; exact sgNm hN (h x i e1)
    · rename_i n' es k pos hn
      cases hn
      split at q
      · rename_i hs
        cases e1 : es.mapM (tgt ok n) with
        | none => rw [e1] at q; cases q
        | some ps =>
          rw [e1] at q; cases q
          have key : ∀ (es : List Expr) (ps : List Pt), es.all noStar = true → es.mapM (tgt ok n) = some ps → es.length = ps.length ∧ PGs X es (gSs X.K H0 ps) := by
            intro es
            induction es with
            | nil => intro ps _ e; cases e; exact ⟨rfl, sgsNil⟩
            | cons e es ih =>
              intro ps hs e1
              simp only [List.all_cons, Bool.and_eq_true] at hs
              rw [List.mapM_cons] at e1
              cases e2 : tgt ok n e with
              | none => rw [e2] at e1; cases e1
              | some p =>
                rw [e2] at e1
                cases e3 : es.mapM (tgt ok n) with
                | none => rw [e3] at e1; cases e1
                | some qs =>
                  rw [e3] at e1; cases e1
                  obtain ⟨l, g⟩ := ih qs hs.2 e3
                  exact ⟨by simp [l], sgsCons hs.1 (stg_ok hN hc h n e p e2) g⟩
          obtain ⟨l, g⟩ := key es ps hs e1
          exact sgTp hc hs l g
      · cases q
    · cases q
end
def locOk (N : List Str) (sc : Scope) (x : Str) : Option Nat := if locB sc x then slot? N x else none
theorem loc_st {pg : Pg} {N : List Str} {sc : Scope} {X : Cx} {ca : Ca} {lev : Nat} {E : XK} (C : CtxS X sc N pg ca lev E) {x : Str} {i : Nat} (h : locOk N sc x = some i) : StOk X x i := by
  unfold locOk at h
  split at h
  · rename_i hl
    exact ⟨by rw [C.c.names]; exact slot_ok h, by rw [C.c.sc]; exact locB_ok hl, .inl (C.fn x)⟩
  · cases h

/-! ### for -/
def forL (p : Pt) (body : SEn → Cells → R Fl) : List D → SEn → Cells → R Fl
  | [], ρ, S => .ok (.nx ρ) S
  | d :: ds, ρ, S => match bindS p d ρ with
    | none => .no
    | some ρ1 => (body ρ1 S).bind fun fl S => match fl with
      | .nx ρ2 => forL p body ds ρ2 S
      | .ct ρ2 => forL p body ds ρ2 S
      | .bk ρ2 => .ok (.nx ρ2) S
      | .rt b => .ok (.rt b) S
def exI (ms : List Nat) (it : SI) (ca : Ca) (ρ : SEn) (S : Cells) : R (List D × SEn) := (it ca (view ms ρ) S).bind fun ds S => .ok (ds, if ms.any (ownAt ρ) then give ms ρ else ρ) S
def sFor (ms : List Nat) (it : SI) (p : Pt) (body : SS) : SS := fun ca ρ S => (exI ms it ca ρ S).bind fun r S => forL p (body ca) r.1 r.2 S
section
variable {pg : Pg} {N : List Str} {sc : Scope}
theorem stI {W : WX} {K : PySem.W.Frag} {F0 H0 F H : Hp} {m0 m : List Addr} {S : Cells} {ρ : SEn} {σ : St} {ms : List Nat} {it : SI} {ca : Ca} {Q : It → Hp → Prop} (g : Gr K F0 H0 m0 F H m S) (s : SEnv K H0 F H m ρ σ)
    (h : Post K W σ F0 H0 m0 (exI ms it ca ρ S) fun r _ F' H' m' => SEnv K H0 F' H' m' r.2 σ → ∀ J, IsIt K J F' m' r.1 → Q J H') : tI K W (it ca) σ H Q := by
  have G0 := frzM_gr (ms := ms) g s
  refine ⟨view ms ρ, S, _, m, G0.w, s.view, ?_⟩
  unfold exI at h
  cases e : it ca (view ms ρ) S with
  | no => rw [e] at h; exact h
  | exn c d S' => rw [e] at h; exact Wish.gr G0 h
  | ok ds S' =>
    rw [e] at h
    intro F' H' m' g' J hJ
    have P : Post K W σ F0 H0 m0 (.ok (ds, if ms.any (ownAt ρ) then give ms ρ else ρ) S') fun r _ F' H' m' => SEnv K H0 F' H' m' r.2 σ → ∀ J, IsIt K J F' m' r.1 → Q J H' := h
    by_cases hm : ms.any (EV.ownAt ρ) = true
    · rw [if_pos hm] at P
      exact P F' H' m' (G0.trans g') (s.given g') J hJ
    · rw [if_neg hm] at P
      have eps : ownPs ms ρ σ = [] := by
        cases hq : ownPs ms ρ σ with
        | nil => rfl
        | cons p ps =>
          obtain ⟨i, d, h1, h2, _⟩ := mem_ownPs (ms := ms) (ρ := ρ) (σ := σ) (p := p) (by rw [hq]; exact List.mem_cons_self)
          exact absurd (List.any_eq_true.mpr ⟨i, h1, by unfold EV.ownAt; rw [h2]⟩) hm
      have K1 := s.kept g'
      have e2 : thaw F' (ownPs ms ρ σ) = F' := by funext a; unfold thaw; rw [eps]; simp
      rw [e2] at K1
      exact P F' H' m' (G0.trans g') K1 J hJ
/-- a later base: what is frozen by now -/
def rb (H0 F : Hp) : Hp := fun a => match F a with
  | some o => some o
  | none => H0 a
theorem rb_none {H0 F : Hp} {a : Addr} (h : rb H0 F a = none) : H0 a = none ∧ F a = none := by
  unfold rb at h
  split at h
  · cases h
  · rename_i e
    exact ⟨h, e⟩
theorem rb_of {H0 F : Hp} {a : Addr} (h : F a = none) : rb H0 F a = H0 a := by
  unfold rb
  rw [h]
section
variable {K : PySem.W.Frag} {E : XK} {F0 H0 F1 H1 F' H' : Hp} {m0 m1 m' : List Addr} {S1 S' : Cells} {ρ : SEn} {σ : St}
theorem Ext.mem {m m' : List Addr} {a : Addr} (e : Ext m m') (h : a ∈ m) : a ∈ m' := by
  obtain ⟨i, hi⟩ := List.mem_iff_getElem?.mp h
  exact List.mem_of_getElem? (e i a hi)
theorem Gr.rebase (g : Gr K F0 H0 m0 F1 H1 m1 S1) : Gr K F1 (rb H0 F1) m1 F1 H1 m1 S1 :=
  ⟨g.w, Sub.refl, Ext.refl, fun a o h1 h2 h3 => by
    rw [rb_of h2] at h1
    refine g.frm a o h1 ?_ fun hm => h3 (g.ext.mem hm)
    cases e : F0 a with
    | none => rfl
    | some u => rw [g.up a u e] at h2; cases h2⟩
theorem Gr.unbase (g : Gr K F0 H0 m0 F1 H1 m1 S1) (g' : Gr K F1 (rb H0 F1) m1 F' H' m' S') : Gr K F0 H0 m0 F' H' m' S' :=
  ⟨g'.w, g.up.trans g'.up, g.ext.trans g'.ext, fun a o h1 h2 h3 => by
    obtain ⟨q1, q2, q3⟩ := g.frm a o h1 h2 h3
    exact g'.frm a o (by rw [rb_of q2]; exact h1) q2 q3⟩
theorem RepB.rebase {b : B} {v : V} (h : RepB K H0 F' H' m' b v) (hf : ∀ p, F' p = none → F1 p = none) : RepB K (rb H0 F1) F' H' m' b v := by
  obtain ⟨d, o⟩ := b
  cases o with
  | false => exact h
  | true =>
    obtain ⟨p, xs, ds, e1, e2, z1, z2, z3, z⟩ := h
    exact ⟨p, xs, ds, e1, e2, by rw [rb_of (hf p z3)]; exact z1, z2, z3, z⟩
theorem RepB.unbase {b : B} {v : V} (h : RepB K (rb H0 F1) F' H' m' b v) : RepB K H0 F' H' m' b v := by
  obtain ⟨d, o⟩ := b
  cases o with
  | false => exact h
  | true =>
    obtain ⟨p, xs, ds, e1, e2, z1, z⟩ := h
    exact ⟨p, xs, ds, e1, e2, (rb_none z1).1, z⟩
theorem SEnv.rebase (s : SEnv K H0 F' H' m' ρ σ) (hf : ∀ p, F' p = none → F1 p = none) : SEnv K (rb H0 F1) F' H' m' ρ σ :=
  ⟨s.len, fun i b h => by
    obtain ⟨v, h1, h2⟩ := s.get i b h
    exact ⟨v, h1, h2.rebase hf⟩, s.dis⟩
theorem SEnv.unbase (s : SEnv K (rb H0 F1) F' H' m' ρ σ) : SEnv K H0 F' H' m' ρ σ :=
  ⟨s.len, fun i b h => by
    obtain ⟨v, h1, h2⟩ := s.get i b h
    exact ⟨v, h1, h2.unbase⟩, s.dis⟩
theorem PostS.rebase {r : R Fl} {Dn : Ends} (g : Gr K F0 H0 m0 F1 H1 m1 S1) (h : PostS K E F0 H0 m0 r Dn) : PostS K E F1 (rb H0 F1) m1 r Dn := by
  cases r with
  | no => exact h
  | exn c d S => exact fun dx x F' H' m' g' h0 h1 h2 h3 h4 => h dx x F' H' m' (g.unbase g') (rb_none h0).1 h1 h2 h3 h4
  | ok fl S =>
    cases fl with
    | nx ρ => exact fun σ F' H' m' g' s' => h σ F' H' m' (g.unbase g') s'.unbase
    | bk ρ => exact fun σ F' H' m' g' s' => h σ F' H' m' (g.unbase g') s'.unbase
    | ct ρ => exact fun σ F' H' m' g' s' => h σ F' H' m' (g.unbase g') s'.unbase
    | rt b => exact fun v F' H' m' g' s' => h v F' H' m' (g.unbase g') s'.unbase
end
theorem Gr.noneF {K : PySem.W.Frag} {F0 H0 F1 H1 : Hp} {m0 m1 : List Addr} {S1 : Cells} {p : Addr} (g : Gr K F0 H0 m0 F1 H1 m1 S1) (h : F1 p = none) : F0 p = none := by
  cases e : F0 p with
  | none => rfl
  | some o => rw [g.up p o e] at h; cases h
def tSx (K : PySem.W.Frag) (E : XK) (f : SEn → Cells → R Fl) : TS := fun Dn σ H => ∃ F0 H0 m0, tS K E F0 H0 m0 f Dn σ H
def gSx (K : PySem.W.Frag) (p : Pt) : TG := fun v σ H Q => ∃ H0, gS K H0 p v σ H Q
theorem SEnv.gr {K : PySem.W.Frag} {H0 F H F' H' : Hp} {m m' : List Addr} {S' : Cells} {ρ : SEn} {σ : St} (s : SEnv K H0 F H m ρ σ) (g3 : Gr K F H m F' H' m' S') : SEnv K H0 F' H' m' ρ σ := by
  refine ⟨s.len, fun j b hj => ?_, s.dis⟩
  obtain ⟨v, h1, h2⟩ := s.get j b hj
  refine ⟨v, h1, ?_⟩
  obtain ⟨d, o⟩ := b
  cases o with
  | false => exact Rep.gr g3 h2
  | true =>
    obtain ⟨q, xs, es, e1, e2, z1, z2, z3, z4, z5, z6⟩ := h2
    obtain ⟨y1, y2, y3⟩ := g3.frm q _ z2 z3 z4
    exact ⟨q, xs, es, e1, e2, z1, y1, y2, y3, z5, z6.gr g3⟩
/-- the turns of a for -/
theorem for_core {K : PySem.W.Frag} {E : XK} {F0 H0 : Hp} {m0 : List Addr} {J : It} {p : Pt} {body : SEn → Cells → R Fl} {Dn : Ends} {ds : List D} {F1 H1 : Hp} {m1 : List Addr} {S1 : Cells} {ρ : SEn} {σ : St} (g1 : Gr K F0 H0 m0 F1 H1 m1 S1) (s1 : SEnv K H0 F1 H1 m1 ρ σ)
    (itS : IsIt K J F1 m1 ds) (h : PostS K E F0 H0 m0 (forL p body ds ρ S1) Dn) :
    ∃ Wi : Nat → Nat → St → Hp → Prop, (∃ k, Wi 0 k σ H1) ∧ ∀ i k σ H, Wi i k σ H →
      (J.stop i H ∧ Dn.nx σ H) ∨ (J.go i H ∧ ∃ Nn : St → Hp → Prop, (∀ σ' H', Nn σ' H' → ∃ k', k' < k ∧ Wi (i + 1) k' σ' H') ∧ ∀ x H', J.yld i H x H' → gSx K p x σ H' fun σ2 H2 => tSx K E body { Dn with nx := Nn, ct := Nn, bk := Dn.nx } σ2 H2) := by
  have hB := PostS.rebase g1 h
  refine ⟨fun i k σ H => k = ds.length - i ∧ i ≤ ds.length ∧ ∃ F2 m2 S2 ρ2, Gr K F1 (rb H0 F1) m1 F2 H m2 S2 ∧ SEnv K (rb H0 F1) F2 H m2 ρ2 σ ∧ PostS K E F1 (rb H0 F1) m1 (forL p body (ds.drop i) ρ2 S2) Dn,
    ⟨ds.length, rfl, Nat.zero_le _, F1, m1, S1, ρ, g1.rebase, s1.rebase fun _ q => q, hB⟩, ?_⟩
  rintro i k σ H ⟨rfl, hi, F2, m2, S2, ρ2, g, s, P⟩
  obtain ⟨i1, i2, i3⟩ := itS.2 F2 H m2 S2 g.lt
  by_cases hlt : i < ds.length
  · refine .inr ⟨i1 i hlt, _, fun σ' H' z => ⟨ds.length - (i + 1), by omega, z⟩, fun x H' hy => ?_⟩
    have ed : ds.drop i = ds[i] :: ds.drop (i + 1) := List.drop_eq_getElem_cons hlt
    rw [ed] at P
    simp only [forL] at P
    obtain ⟨F3, g3, r3⟩ := i3 i x H' ds[i] (by simp) hy
    cases eb : bindS p ds[i] ρ2 with
    | none => rw [eb] at P; exact P.elim
    | some ρ' =>
      rw [eb] at P
      dsimp only at P
      have G3 := g.trans g3
      refine ⟨rb H0 F1, F3, m2, ds[i], ρ2, ρ', g3.w.sub, r3, s.gr g3, eb, fun σ2 s2 => ⟨F1, rb H0 F1, m1, ρ', S2, F3, m2, G3, s2, ?_⟩⟩
      cases e4 : body ρ' S2 with
      | no => rw [e4] at P; exact P
      | exn c d S4 => rw [e4] at P; exact P
      | ok fl S4 =>
        rw [e4] at P
        cases fl with
        | nx ρ4 => exact fun σ4 F4 H4 m4 g4 s4 => ⟨rfl, hlt, F4, m4, S4, ρ4, g4, s4, P⟩
        | ct ρ4 => exact fun σ4 F4 H4 m4 g4 s4 => ⟨rfl, hlt, F4, m4, S4, ρ4, g4, s4, P⟩
        | bk ρ4 => exact P
        | rt b => exact P
  · have e : i = ds.length := by omega
    subst e
    rw [List.drop_length] at P
    exact .inl ⟨i2, P σ F2 H m2 g s⟩
theorem okFor {tg iter : Expr} {body : List Stmt} {ms : List Nat} {it : SI} {p : Pt} {f : SS} {n : Nat} {pos : Pos} (hs : notSet iter = true) (hi : OkI pg N sc tg iter it) (hg : tgt (locOk N sc) n tg = some p) (hb : OkSs pg N sc body f) : OkS pg N sc (.For tg iter body [] pos) (sFor ms it p f) := fun X ca lev E F0 H0 m0 C => by
  have PB : PSs X body (tSx X.K E (f ca)) := ⟨fun pins s σ H Dn I ⟨F0, H0, m0, q⟩ => (hb X ca lev E F0 H0 m0 C).run pins s σ H Dn I q⟩
  have PT' : PG X tg (gSx X.K p) := ⟨fun pins s σ H v u Q I rv ⟨H0, q⟩ => (stg_ok (H0 := H0) C.c.nd C.c.calm (fun x i h => loc_st C h) n tg p hg).run pins s σ H v u Q I rv q⟩
  refine PS.imp (ps_for C.own C.c.calm (hi X ca lev _ C.c) PT' PB (notSet_ok hs)) fun Dn σ H ⟨ρ, S, F, m, g, s, q⟩ => ?_
  exact stI g s (Post.mono (postS_ex q) fun r S1 F1 H1 m1 e1 g1 q1 s1 J hJ => for_core g1 s1 hJ q1)
end
end EV

namespace EV
open PySem PySem.Spec PyProof.Rows L2

theorem noStar_all {pos : Pos} {env : Env} : ∀ {es : List Expr}, es.all noStar = true → (backTo pos (starEach es env)).all (fun x => !x.1) = true
  | [], _ => rfl
  | e :: es, h => by
    simp only [List.all_cons, Bool.and_eq_true] at h
    rw [starEach_cons h.1]
    show (!false && (backTo pos (starEach es env)).all (fun x => !x.1)) = true
    rw [noStar_all h.2]; rfl
theorem few_ok {pos : Pos} {env : Env} {e : Expr} {es : List Expr} (h : (e :: es).all noStar = true) (hl : es.length < 20) :
    ((backTo pos (starEach (e :: es) env)).all (fun x => !x.1) && (backToKw pos (keywordEach [] env)).all (fun x => x.1.isSome)
      && decide ((e :: es).length + ([] : List Keyword).length + (if ([] : List Keyword).isEmpty then 0 else 1) < 30)) = true := by
  rw [noStar_all h]
  simp only [Bool.true_and, Bool.and_eq_true, decide_eq_true_eq]
  refine ⟨rfl, ?_⟩
  simp
  omega
def notCallE : Expr → Bool
  | .Call .. => false
  | _ => true
theorem abase {o : Expr} {attr : Str} {env : Env} {w : Sem Value} (h : notCallE o = true) : attributeBase o attr env w = w := by
  cases o <;> first | rfl | cases h

section
variable {K : PySem.W.Frag} {H0 F H : Hp} {m : List Addr} {ρ : SEn} {σ : St}
/-- an own list at slot k -/
theorem SEnv.own (s : SEnv K H0 F H m ρ σ) {k : Nat} {ds : List D} (h : ρ[k]? = some (some (.lst ds, true))) : ∃ p xs, σ[k]? = some (some (.ref p)) ∧ H0 p = none ∧ H p = some (.lst xs) ∧ F p = none ∧ p ∉ m ∧ xs.length ≤ sizeLine ∧ RepL K F m ds xs := by
  obtain ⟨v, h1, p, xs, ds', e1, e2, r⟩ := s.get k _ h
  have e1' : D.lst ds = .lst ds' := e1
  cases e1'
  subst e2
  exact ⟨p, xs, h1, r⟩
/-- an own list is changed -/
theorem SEnv.write (s : SEnv K H0 F H m ρ σ) {k : Nat} {ds es : List D} {p : Addr} {ys : List V} (h : ρ[k]? = some (some (.lst ds, true))) (hp : σ[k]? = some (some (.ref p))) (hz : ys.length ≤ sizeLine) (r : RepL K F m es ys) :
    SEnv K H0 F (upd H p (.lst ys)) m (ρ.set k (some (.lst es, true))) σ := by
  obtain ⟨p', xs, q1, q2, q3, q4, q5, q6, q7⟩ := s.own h
  rw [hp] at q1; cases q1
  have hk : k < ρ.length := (List.getElem?_eq_some_iff.mp h).1
  refine ⟨by simp [s.len], fun i b hi => ?_, fun i j a b q hij h1 h2 h3 h4 => ?_⟩
  · by_cases hik : k = i
    · subst hik
      rw [List.getElem?_set_self hk] at hi
      cases hi
      exact ⟨.ref p, hp, p, ys, es, rfl, rfl, q2, upd_same, q4, q5, hz, r⟩
    · rw [List.getElem?_set_ne hik] at hi
      obtain ⟨v, y1, y2⟩ := s.get i b hi
      refine ⟨v, y1, ?_⟩
      obtain ⟨d, o⟩ := b
      cases o with
      | false => exact y2
      | true =>
        obtain ⟨p2, xs2, ds2, e1, e2, z1, z2, z⟩ := y2
        subst e2
        have hne : p2 ≠ p := fun e => s.dis k i _ _ p hik h hi hp (by rw [← e]; exact y1)
        exact ⟨p2, xs2, ds2, e1, rfl, z1, by rw [upd_ne hne]; exact z2, z⟩
  · have key : ∀ (i : Nat) (a : D), (ρ.set k (some (.lst es, true)))[i]? = some (some (a, true)) → ∃ a', ρ[i]? = some (some (a', true)) := fun i a hi => by
      by_cases hik : k = i
      · subst hik; exact ⟨_, h⟩
      · rw [List.getElem?_set_ne hik] at hi; exact ⟨a, hi⟩
    obtain ⟨a', h1'⟩ := key i a h1
    obtain ⟨b', h2'⟩ := key j b h2
    exact s.dis i j a' b' q hij h1' h2' h3 h4
end
/-- a result is frozen while slots stay -/
theorem freezeS {K : PySem.W.Frag} {F0 H0 F H : Hp} {m0 m : List Addr} {S : Cells} {ρ : SEn} {σ : St} {b : B} {v : V} (g : Gr K F0 H0 m0 F H m S) (s : SEnv K H0 F H m ρ σ) (r : RepB K H0 F H m b v) (ap : Apart ρ σ b v) :
    ∃ F2, Gr K F0 H0 m0 F2 H m S ∧ SEnv K H0 F2 H m ρ σ ∧ Rep K F2 m b.1 v ∧ Sub F F2 := by
  obtain ⟨F2, g2, sb, r2⟩ := freeze g r
  obtain ⟨d, o⟩ := b
  cases o with
  | false => exact ⟨F, g, s, r, Sub.refl⟩
  | true =>
    obtain ⟨p, xs, ds, e1, e2, z1, z2, z3, z4, z5, z6⟩ := r
    have e1' : d = .lst ds := e1
    subst e1' e2
    refine ⟨upd F p (.lst xs), ?_, ?_, ?_, sub_upd z3⟩
    · refine ⟨g.w.frz z2 z4 z3, g.up.trans (sub_upd z3), g.ext, fun a u q1 q2 q3 => ?_⟩
      obtain ⟨y1, y2, y3⟩ := g.frm a u q1 q2 q3
      exact ⟨y1, by rw [upd_ne (ne_of_none q1 z1)]; exact y2, y3⟩
    · refine ⟨s.len, fun i b hi => ?_, s.dis⟩
      obtain ⟨v, y1, y2⟩ := s.get i b hi
      refine ⟨v, y1, ?_⟩
      obtain ⟨d, o⟩ := b
      cases o with
      | false => exact Rep.up (sub_upd z3) Ext.refl _ _ y2
      | true =>
        obtain ⟨p2, xs2, ds2, e1, e2, w1, w2, w3, w4, w5, w6⟩ := y2
        subst e2
        have hne : p2 ≠ p := fun e => ap rfl i d hi (by rw [← e]; exact y1)
        exact ⟨p2, xs2, ds2, e1, rfl, w1, w2, by rw [upd_ne hne]; exact w3, w4, w5, w6.up (sub_upd z3) Ext.refl⟩
    · simp only [Rep]
      exact ⟨p, xs, rfl, upd_same, z5, z6.up (sub_upd z3) Ext.refl⟩
/-- an own list's change seen from the entry -/
theorem Gr.wr {K : PySem.W.Frag} {F0 H0 F H : Hp} {m0 m : List Addr} {S : Cells} {p : Addr} {o : HO} (g : Gr K F0 H0 m0 F H m S) (h0 : H0 p = none) (hF : F p = none) (hm : p ∉ m) : Gr K F0 H0 m0 F (upd H p o) m S := g.own h0 hF hm

section
variable {pg : Pg} {N : List Str} {sc : Scope}
/-- x.append(e), x one's own list at slot k -/
def sApp (k : Nat) (ms : List Nat) (f : SE) : SS := fun ca ρ S => match ρ[k]? with
  | some (some (.lst _, true)) => (ex1 ms f ca ρ S).bind fun r S => match r.2[k]? with
    | some (some (.lst ds, true)) => if ds.length < 16777216 then .ok (.nx (r.2.set k (some (.lst (ds ++ [r.1.1]), true)))) S else .no
    | _ => .no
  | _ => .no
def sExt (k : Nat) (ms : List Nat) (f : SE) : SS := fun ca ρ S => match ρ[k]? with
  | some (some (.lst _, true)) => (ex1 ms f ca ρ S).bind fun r S => match r.2[k]?, r.1.1 with
    | some (some (.lst ds, true)), .lst es => if ds.length + es.length ≤ 16777216 then .ok (.nx (r.2.set k (some (.lst (ds ++ es), true)))) S else .no
    | _, _ => .no
  | _ => .no
theorem own_var {K : PySem.W.Frag} {H0 F H : Hp} {m : List Addr} {ρ : SEn} {σ : St} {k : Nat} {ds : List D} {Q : VK} (s : SEnv K H0 F H m ρ σ) (h : ρ[k]? = some (some (.lst ds, true))) (q : ∀ p xs, σ[k]? = some (some (.ref p)) → H p = some (.lst xs) → Q (.ref p) H) : tVar k σ H Q := by
  obtain ⟨p, xs, h1, _, h3, _⟩ := s.own h
  exact ⟨.ref p, h1, q p xs h1 h3⟩
theorem okApp {x : Str} {k : Nat} {e : Expr} {ms : List Nat} {f : SE} {np apos cpos spos : Pos} (hi : slot? N x = some k) (hv : visB sc x = true) (hp : plainName x = true) (hl : (apos.endLine == cpos.line) = true) (hs : noStar e = true) (h : OkE pg N sc e f) :
    OkS pg N sc (.Expr (.Call (.Attribute (.Name x np) "append" apos) [e] [] cpos) spos) (sApp k ms f) := fun X ca lev E F0 H0 m0 C => by
  have hall : [e].all noStar = true := by simp [hs]
  have PX : PE X (.Name x np) (tVar k) := pe_var (by rw [C.c.names]; exact slot_ok hi) (by rw [C.c.sc]; exact visB_ok hv) (plain1 hp).1 (plain1 hp).2.1
  refine PS.imp (ps_expr (pe_bm PySem.F.plainAttrs_list PySem.F.slot_list_append PySem.F.type_list_append mt_append PX (pa_cons (h X ca lev _ C.c) pa_nil (starEach_cons hs)) (abase rfl) (few_ok hall (by simp)) hl (starEach_cons hs) rfl) rfl)
    fun Dn σ H ⟨ρ, S, F, m, g, s, q⟩ => ?_
  unfold sApp at q
  split at q
  · rename_i ds0 h0
    obtain ⟨p, xs, hp1, _, hp2, _⟩ := s.own h0
    refine ⟨.ref p, hp1, .inl ⟨rfl, _, SqL.of hp2⟩, ?_⟩
    refine stEx g s (Post.mono (postS_ex q) fun r S1 F1 H1 m1 e1 g1 q1 v s1 rv ap => ?_)
    split at q1
    · rename_i ds h1
      split at q1
      · rename_i hlt
        obtain ⟨F2, g2, s2, r2, sb⟩ := freezeS g1 s1 rv ap
        obtain ⟨p', xs', y1, y2, y3, y4, y5, y6, y7⟩ := s2.own h1
        rw [hp1] at y1; cases y1
        have hl7 := y7.length
        refine ⟨p, xs', v, rfl, rfl, y3, by rw [line24]; omega, ?_⟩
        exact q1 σ F2 _ m1 (g2.wr y2 y4 y5) (s2.write h1 hp1 (by rw [List.length_append, line24]; simp; omega) (y7.append (.one r2)))
      · exact q1.elim
    · exact q1.elim
  · exact q.elim
theorem okExt {x : Str} {k : Nat} {e : Expr} {ms : List Nat} {f : SE} {np apos cpos spos : Pos} (hi : slot? N x = some k) (hv : visB sc x = true) (hp : plainName x = true) (hl : (apos.endLine == cpos.line) = true) (hs : noStar e = true) (h : OkE pg N sc e f) :
    OkS pg N sc (.Expr (.Call (.Attribute (.Name x np) "extend" apos) [e] [] cpos) spos) (sExt k ms f) := fun X ca lev E F0 H0 m0 C => by
  have hall : [e].all noStar = true := by simp [hs]
  have PX : PE X (.Name x np) (tVar k) := pe_var (by rw [C.c.names]; exact slot_ok hi) (by rw [C.c.sc]; exact visB_ok hv) (plain1 hp).1 (plain1 hp).2.1
  refine PS.imp (ps_expr (pe_bm PySem.F.plainAttrs_list PySem.F.slot_list_extend PySem.F.type_list_extend mt_extend PX (pa_cons (h X ca lev _ C.c) pa_nil (starEach_cons hs)) (abase rfl) (few_ok hall (by simp)) hl (starEach_cons hs) rfl) rfl)
    fun Dn σ H ⟨ρ, S, F, m, g, s, q⟩ => ?_
  unfold sExt at q
  split at q
  · rename_i ds0 h0
    obtain ⟨p, xs, hp1, _, hp2, _⟩ := s.own h0
    refine ⟨.ref p, hp1, .inl ⟨rfl, _, SqL.of hp2⟩, ?_⟩
    refine stEx g s (Post.mono (postS_ex q) fun r S1 F1 H1 m1 e1 g1 q1 v s1 rv ap => ?_)
    obtain ⟨⟨d, o⟩, ρ1⟩ := r
    dsimp only at q1 s1 rv ap
    cases h1 : ρ1[k]? with
    | none => rw [h1] at q1; exact q1.elim
    | some b1 =>
      rw [h1] at q1
      split at q1
      · rename_i ds es hb
        cases hb
        split at q1
        · rename_i hlt
          obtain ⟨F2, g2, s2, r2, sb⟩ := freezeS g1 s1 rv ap
          obtain ⟨p', xs', y1, y2, y3, y4, y5, y6, y7⟩ := s2.own h1
          rw [hp1] at y1; cases y1
          have hl7 := y7.length
          simp only [Rep] at r2
          obtain ⟨b, zs, rfl, w1, w2, w3⟩ := r2
          have hl3 := w3.length
          refine ⟨p, b, xs', zs, rfl, rfl, y3, g2.w.sub _ _ w1, by rw [line24]; omega, ?_⟩
          exact q1 σ F2 _ m1 (g2.wr y2 y4 y5) (s2.write h1 hp1 (by rw [List.length_append, line24]; omega) (y7.append w3))
        · exact q1.elim
      · exact q1.elim
  · exact q.elim
end
end EV

namespace EV
open PySem PySem.Spec PyProof.Rows L2
section
variable {K : PySem.W.Frag} {F0 H0 F H : Hp} {m0 m : List Addr} {S : Cells} {ρ : SEn} {σ : St}
theorem ixN_lt {n : Nat} {i : Int} {j : Nat} (h : ixN n i = some j) : j < n := (ixN_seq h).2.1
theorem immL_set {d : D} (hd : imm d = true) : ∀ {ds : List D} (j : Nat), immL ds = true → immL (ds.set j d) = true
  | [], j, h => by simpa using h
  | e :: es, 0, h => by
    simp only [immL, Bool.and_eq_true] at h
    simp only [List.set_cons_zero, immL, hd, h.2, Bool.and_self]
  | e :: es, j + 1, h => by
    simp only [immL, Bool.and_eq_true] at h
    simp only [List.set_cons_succ, immL, h.1, immL_set hd j h.2, Bool.and_self]
/-- a cell's item is changed -/
theorem Gr.setCel {c : Nat} {a : Addr} {ds : List D} {xs : List V} {j : Nat} {d : D} {v : V} (g : Gr K F0 H0 m0 F H m S) (ha : m[c]? = some a) (hs : S[c]? = some (.ls ds)) (hx : H a = some (.lst xs)) (r : Rep K F m d v) (hd : imm d = true) :
    Gr K F0 H0 m0 F (upd H a (.lst (xs.set j v))) m (S.set c (.ls (ds.set j d))) := by
  obtain ⟨q1, ys, q2, q3, q4⟩ := g.w.cel c a (.ls ds) ha hs
  rw [hx] at q2; cases q2
  have hc : c < S.length := (List.getElem?_eq_some_iff.mp hs).1
  refine ⟨⟨fun b o e => ?_, by simp [g.w.len], g.w.nd, fun i b es h1 h2 => ?_, fun i es h => ?_⟩, g.up, g.ext, fun b o h1 h2 h3 => ?_⟩
  · have hne : b ≠ a := fun z => by rw [z, q1] at e; cases e
    rw [upd_ne hne]; exact g.w.sub b o e
  · by_cases hci : c = i
    · subst hci
      rw [ha] at h1; cases h1
      rw [List.getElem?_set_self hc] at h2
      cases h2
      exact ⟨q1, _, upd_same, by simpa using q3, q4.set r j⟩
    · rw [List.getElem?_set_ne hci] at h2
      obtain ⟨w1, w2⟩ := g.w.cel i b es h1 h2
      have hne : b ≠ a := fun z => by
        subst z
        exact hci (nodup_at g.w.nd ha h1)
      exact ⟨w1, w2.keep Sub.refl Ext.refl (upd_ne hne)⟩
  · by_cases hci : c = i
    · subst hci
      rw [List.getElem?_set_self hc] at h
      cases h
      exact immL_set hd j (g.w.im c (.ls ds) hs)
    · rw [List.getElem?_set_ne hci] at h
      exact g.w.im i es h
  · obtain ⟨y1, y2, y3⟩ := g.frm b o h1 h2 h3
    have hne : b ≠ a := fun z => y3 (z ▸ List.mem_of_getElem? ha)
    exact ⟨by rw [upd_ne hne]; exact y1, y2, y3⟩
where
  nodup_at {l : List Addr} (hn : l.Nodup) {i j : Nat} {a : Addr} (h1 : l[i]? = some a) (h2 : l[j]? = some a) : i = j := by
    obtain ⟨x1, e1⟩ := List.getElem?_eq_some_iff.mp h1
    obtain ⟨x2, e2⟩ := List.getElem?_eq_some_iff.mp h2
    exact (List.getElem_inj hn).mp (e1.trans e2.symm)
theorem SEnv.setCel {a : Addr} {o : HO} (s : SEnv K H0 F H m ρ σ) (ha : a ∈ m) : SEnv K H0 F (upd H a o) m ρ σ :=
  ⟨s.len, fun i b hi => by
    obtain ⟨v, y1, y2⟩ := s.get i b hi
    refine ⟨v, y1, ?_⟩
    obtain ⟨d, ow⟩ := b
    cases ow with
    | false => exact y2
    | true =>
      obtain ⟨p2, xs2, ds2, e1, e2, w1, w2, w3, w4, w5⟩ := y2
      have hne : p2 ≠ a := fun e => w4 (e ▸ ha)
      exact ⟨p2, xs2, ds2, e1, e2, w1, by rw [upd_ne hne]; exact w2, w3, w4, w5⟩, s.dis⟩
end
/-- x[i] = e, x a cell or one's own list at slot k -/
def sSetIx (k : Nat) (ms : List Nat) (f : SE) (ms2 : List Nat) (fi : SE) : SS := fun ca ρ S => (ex1 ms f ca ρ S).bind fun r S => match r.2[k]? with
  | some (some (.cel c, false)) => (ex1 ms2 fi ca r.2 S).bind fun ri S => match ri.1.1, S[c]? with
    | .int i, some (.ls ds) => (match ixN ds.length i with
      | some j => if imm r.1.1 then .ok (.nx ri.2) (S.set c (.ls (ds.set j r.1.1))) else .no
      | none => .no)
    | _, _ => .no
  | some (some (.lst _, true)) => (ex1 ms2 fi ca r.2 S).bind fun ri S => match ri.1.1, ri.2[k]? with
    | .int i, some (some (.lst ds, true)) => (match ixN ds.length i with
      | some j => .ok (.nx (ri.2.set k (some (.lst (ds.set j r.1.1), true)))) S
      | none => .no)
    | _, _ => .no
  | _ => .no
section
variable {pg : Pg} {N : List Str} {sc : Scope}
theorem okSetIx {x : Str} {k : Nat} {e i : Expr} {ms ms2 : List Nat} {f fi : SE} {np tpos spos : Pos} (hk : slot? N x = some k) (hv : visB sc x = true) (hp : plainName x = true) (hi : notSlice i = true) (h : OkE pg N sc e f) (h2 : OkE pg N sc i fi) :
    OkS pg N sc (.Assign [.Subscript (.Name x np) i tpos] e spos) (sSetIx k ms f ms2 fi) := fun X ca lev E F0 H0 m0 C => by
  have PX : PE X (.Name x np) (tVar k) := pe_var (by rw [C.c.names]; exact slot_ok hk) (by rw [C.c.sc]; exact visB_ok hv) (plain1 hp).1 (plain1 hp).2.1
  refine PS.imp (ps_asg (h X ca lev _ C.c) (pg_sub PX (h2 X ca lev _ C.c) set_list (fun v => by cases i <;> first | rfl | cases hi)) (by cases e <;> rfl) (by cases e <;> rfl) rfl) fun Dn σ H ⟨ρ, S, F, m, g, s, q⟩ => ?_
  refine stEx g s (Post.mono (postS_ex q) fun r S1 F1 H1 m1 e1 g1 q1 v s1 rv ap => ?_)
  obtain ⟨F2, g2, s2, r2, sb⟩ := freezeS g1 s1 rv ap
  have gb := g2.rebase
  have sb2 := s2.rebase (F1 := F2) fun _ z => z
  split at q1
  · rename_i c hr
    obtain ⟨u, y1, y2⟩ := s2.get k _ hr
    have y2' : Rep X.K F2 m1 (.cel c) u := y2
    simp only [Rep] at y2'
    obtain ⟨a, ha, rfl⟩ := y2'
    refine ⟨.ref a, y1, ?_⟩
    refine stEx gb sb2 (Post.mono (postS_ex (PostS.rebase g2 q1)) fun ri S3 F3 H3 m3 e3 g3 q3 iv s3 ri3 ap3 => ?_)
    obtain ⟨⟨di, oi⟩, ρ3⟩ := ri
    dsimp only at q3 s3 ri3 ap3
    cases hs : S3[c]? with
    | none => rw [hs] at q3; cases di <;> exact q3.elim
    | some cc =>
      rw [hs] at q3
      cases cc with
      | ob _ _ _ => cases di <;> exact q3.elim
      | tb _ _ => cases di <;> exact q3.elim
      | ls ds =>
        cases di with
        | int i0 =>
          dsimp only at q3
          cases hj : ixN ds.length i0 with
          | none => rw [hj] at q3; exact q3.elim
          | some j =>
            rw [hj] at q3
            dsimp only at q3
            split at q3
            · rename_i hd
              have ha3 := g3.ext c a ha
              obtain ⟨w1, xs, w2, w3, w4⟩ := g3.w.cel c a (.ls ds) ha3 hs
              have ei : iv = .int i0 := by
                cases oi with
                | false =>
                  have z : Rep X.K F3 m3 (.int i0) iv := ri3
                  simpa only [Rep] using z
                | true => obtain ⟨_, _, _, z, _⟩ := ri3; cases z
              refine ⟨a, xs, i0, j, rfl, ei, w2, by rw [← w4.length]; exact hj, ?_⟩
              exact q3 σ F3 _ m3 (g3.setCel ha3 hs w2 (r2.gr g3) hd) (s3.setCel (List.mem_of_getElem? ha3))
            · exact q3.elim
        | _ => exact q3.elim
  · rename_i ds0 hr
    obtain ⟨p, xs, y1, y3⟩ := s2.own hr
    refine ⟨.ref p, y1, ?_⟩
    refine stEx gb sb2 (Post.mono (postS_ex (PostS.rebase g2 q1)) fun ri S3 F3 H3 m3 e3 g3 q3 iv s3 ri3 ap3 => ?_)
    obtain ⟨⟨di, oi⟩, ρ3⟩ := ri
    dsimp only at q3 s3 ri3 ap3
    cases di with
    | int i0 =>
      cases hs : ρ3[k]? with
      | none => rw [hs] at q3; exact q3.elim
      | some b3 =>
        rw [hs] at q3
        cases b3 with
        | none => exact q3.elim
        | some bb =>
          obtain ⟨dd, oo⟩ := bb
          cases oo with
          | false => cases dd <;> exact q3.elim
          | true =>
            cases dd with
            | lst ds =>
              dsimp only at q3
              cases hj : ixN ds.length i0 with
              | none => rw [hj] at q3; exact q3.elim
              | some j =>
                rw [hj] at q3
                have ei : iv = .int i0 := by
                  cases oi with
                  | false =>
                    have z : Rep X.K F3 m3 (.int i0) iv := ri3
                    simpa only [Rep] using z
                  | true => obtain ⟨_, _, _, z, _⟩ := ri3; cases z
                obtain ⟨p', ys, z1, z2, z3, z4, z5, z6, z7⟩ := s3.own hs
                rw [y1] at z1; cases z1
                refine ⟨p, ys, i0, j, rfl, ei, z3, by rw [← z7.length]; exact hj, ?_⟩
                exact q3 σ F3 _ m3 (g3.wr z2 z4 z5) (s3.write hs y1 (by simpa using z6) (z7.set (r2.gr g3) j))
            | _ => exact q3.elim
    | _ => exact q3.elim
  · exact q1.elim
end
end EV

namespace EV
open PySem PySem.Spec PyProof.Rows L2

/-! ### name = a new list that is to be a cell -/
theorem ext_app {m : List Addr} {p : Addr} : Ext m (m ++ [p]) := fun i a e => by
  rw [List.getElem?_append_left (List.getElem?_eq_some_iff.mp e).1]; exact e
theorem Wd.cell {K : PySem.W.Frag} {F H : Hp} {m : List Addr} {S : Cells} {p : Addr} {xs : List V} {ds : List D} (w : Wd K F H m S) (hp : H p = some (.lst xs)) (hF : F p = none) (hm : p ∉ m) (hz : xs.length ≤ sizeLine) (r : RepL K F m ds xs) (hi : immL ds = true) :
    Wd K F H (m ++ [p]) (S ++ [.ls ds]) := by
  have hl := w.len
  refine ⟨w.sub, by simp [hl], ?_, fun i a es h1 h2 => ?_, fun i es h => ?_⟩
  · rw [List.nodup_append]
    exact ⟨w.nd, by simp, fun a ha b hb e => by
      have : b = p := by simpa using hb
      exact hm (this ▸ e ▸ ha)⟩
  · by_cases hlt : i < m.length
    · rw [List.getElem?_append_left hlt] at h1
      rw [List.getElem?_append_left (by omega)] at h2
      obtain ⟨z1, z2⟩ := w.cel i a es h1 h2
      exact ⟨z1, z2.keep Sub.refl ext_app rfl⟩
    · have hi' := (List.getElem?_eq_some_iff.mp h1).1
      have e : i = m.length := by simp at hi'; omega
      subst e
      rw [List.getElem?_append_right (Nat.le_refl _)] at h1
      rw [List.getElem?_append_right (by omega)] at h2
      simp at h1
      rw [hl] at h2
      simp at h2
      subst h1 h2
      exact ⟨hF, xs, hp, hz, r.up Sub.refl ext_app⟩
  · by_cases hlt : i < S.length
    · rw [List.getElem?_append_left hlt] at h
      exact w.im i es h
    · have hi' := (List.getElem?_eq_some_iff.mp h).1
      have e : i = S.length := by simp at hi'; omega
      subst e
      rw [List.getElem?_append_right (Nat.le_refl _)] at h
      simp at h
      subst h
      exact hi
def sSetC (i : Nat) (ms : List Nat) (f : SE) : SS := fun ca ρ S => (ex1 ms f ca ρ S).bind fun r S => match r.1 with
  | (.lst ds, true) => if i < r.2.length && immL ds then .ok (.nx (r.2.set i (some (.cel S.length, false)))) (S ++ [.ls ds]) else .no
  | _ => .no
section
variable {pg : Pg} {N : List Str} {sc : Scope}
theorem setC_fin {X : Cx} {E : XK} {F0 H0 : Hp} {m0 : List Addr} {ca : Ca} {i : Nat} {ms : List Nat} {f : SE} {Dn : Ends} {σ : St} {H : Hp} (h : tS X.K E F0 H0 m0 (sSetC i ms f ca) Dn σ H) : tAsg (tE X.K (fun c d _ H => E c d H) (f ca)) (gName i) Dn σ H := by
  obtain ⟨ρ, S, F, m, g, s, q⟩ := h
  refine stEx g s (Post.mono (postS_ex q) fun r S1 F1 H1 m1 e1 g1 q1 v s1 rv ap => ?_)
  obtain ⟨b, ρ1⟩ := r
  split at q1
  · rename_i ds hb
    have hb' : b = (.lst ds, true) := hb
    subst hb'
    split at q1
    · rename_i hc
      simp only [Bool.and_eq_true, decide_eq_true_eq] at hc
      obtain ⟨p, xs, ds', e1', e2, z1, z2, z3, z4, z5, z6⟩ := rv
      cases e1'
      subst e2
      have G : Gr X.K F0 H0 m0 F1 H1 (m1 ++ [p]) (S1 ++ [.ls ds]) := ⟨g1.w.cell z2 z3 z4 z5 z6 hc.2, g1.up, g1.ext.trans ext_app, fun a o y1 y2 y3 => by
        obtain ⟨x1, x2, x3⟩ := g1.frm a o y1 y2 y3
        refine ⟨x1, x2, fun hm => ?_⟩
        rcases List.mem_append.mp hm with hm | hm
        · exact x3 hm
        · have : a = p := by simpa using hm
          rw [this, z1] at y1; cases y1⟩
      have S2 : SEnv X.K H0 F1 H1 (m1 ++ [p]) ρ1 σ := ⟨s1.len, fun j c hj => by
        obtain ⟨u, y1, y2⟩ := s1.get j c hj
        refine ⟨u, y1, ?_⟩
        obtain ⟨d, o⟩ := c
        cases o with
        | false => exact Rep.up Sub.refl ext_app _ _ y2
        | true =>
          obtain ⟨p2, xs2, ds2, e1, e2, w1, w2, w3, w4, w5, w6⟩ := y2
          subst e2
          have hne : p2 ≠ p := fun e => ap rfl j d hj (by rw [← e]; exact y1)
          exact ⟨p2, xs2, ds2, e1, rfl, w1, w2, w3, by
            intro hm
            rcases List.mem_append.mp hm with hm | hm
            · exact w4 hm
            · exact hne (by simpa using hm), w5, w6.up Sub.refl ext_app⟩, s1.dis⟩
      refine q1 _ F1 H1 (m1 ++ [p]) G (S2.set (b := (.cel S1.length, false)) (v := .ref p) ?_ (fun z => by cases z))
      show Rep _ _ _ _ _
      simp only [Rep]
      exact ⟨p, by rw [← g1.w.len]; simp, rfl⟩
    · exact q1.elim
  · exact q1.elim
theorem okSetC {x : Str} {i : Nat} {e : Expr} {ms : List Nat} {f : SE} {pos pos' : Pos} (hi : slot? N x = some i) (hx : locB sc x = true) (hn : notComp e = true) (h : OkE pg N sc e f) : OkS pg N sc (.Assign [.Name x pos'] e pos) (sSetC i ms f) := fun X ca lev E F0 H0 m0 C =>
  PS.imp (ps_set C.c.nd (by rw [C.c.names]; exact slot_ok hi) (by rw [C.c.sc]; exact locB_ok hx) (h X ca lev _ C.c) (notComp_sw hn) (.inl (C.fn x))) fun Dn σ H h => setC_fin h
end
end EV

namespace EV
open PySem PySem.Spec PyProof.Rows L2

/-! ### errors: made, asked, read -/
section
variable {X : Cx} {x : Str} {C : Addr} {e : Expr} {es : List Expr} {t : TA} {r : List V → Hp → VK → Prop} {p pos : Pos}
theorem pe_callC (hc : CallR X (.ref C) r) (hg : Gl X x) (hm : X.mg x = some (.ref C)) (hk : PySem.W.keepIn X.K (.ref C) = true) (ha : PA X (e :: es) t) (hdb : (x == ("__debug__" : Str)) = false)
    (he : starEach (e :: es) X.env = (false, eval e X.env) :: starEach es X.env) (hpl : (backTo pos (starEach es X.env)).any (·.1) = false) : PE X (.Call (.Name x p) (e :: es) [] pos) (tCB r t) := by
  refine ⟨fun pins s σ H Q I h => wpAny_Call_Name_kw (ld_glob I hg hm ?_ hdb)⟩
  refine PySem.W.callWith_K (h₀ := X.base) I.ok.mod.kin hk (thn (ha.run pos pins s σ H _ I h) fun us s1 ⟨vs, H1, I1, r1, q1⟩ => ⟨I1.kIn, ?_⟩) he hpl
  exact hc pins s1 σ H1 vs us Q I1 r1 q1
end
theorem Outs.exc {K : PySem.W.Frag} {F H : Hp} {m : List Addr} {S : Cells} {Q : VK} {x : Str} {d : D} {y : V} (w : Wd K F H m S) (o : Outs K F H m S (.exc x d, false) Q) (r : Rep K F m d y) (a dx : Addr) (ha : H a = none) (hd : H dx = none) (hne : dx ≠ a) :
    Q (.ref a) (upd (upd H dx (.xd [(("value" : Str), y)])) a (EVX.exq a (He.ga K x) (some dx))) := by
  have g1 := Gr.layF (o := .xd [(("value" : Str), y)]) w hd
  have ha1 : upd H dx (.xd [(("value" : Str), y)]) a = none := by rw [upd_ne (Ne.symm hne)]; exact ha
  have g2 := Gr.layF (o := EVX.exq a (He.ga K x) (some dx)) g1.w ha1
  refine o (.ref a) _ _ m (g1.trans g2) ?_
  show Rep K _ m (.exc x d) _
  simp only [Rep]
  exact ⟨a, dx, y, rfl, upd_same, by rw [upd_ne hne, upd_same], (r.gr g1).gr g2⟩
def gExc (x : Str) (_ : Cells) : List D → Option B
  | [d] => some (.exc x d, false)
  | _ => none
/-- isinstance with an own error's class -/
def gIsE (xs : List Str) (c : Str) (_ : Cells) : D → Option B
  | .exc c' _ => if xs.contains c' then bB (subE c' c) else none
  | _ => none
def gIsVE (xs : List Str) (_ : Cells) : D → Option B
  | .exc c' _ => if xs.contains c' then bB true else none
  | _ => none
def gVal (xs : List Str) (_ : Cells) : D → Option B
  | .exc c' d => if xs.contains c' then some (d, false) else none
  | _ => none
section
variable {pg : Pg} {N : List Str} {sc : Scope}
theorem okExc {x : Str} {e : Expr} {p pos : Pos} {f : SE} (hx : pg.excs.contains x = true) (hg : glB sc x = true) (hp : plainName x = true) (hs : noStar e = true) (h : OkE pg N sc e f) : OkE pg N sc (.Call (.Name x p) [e] [] pos) (cOpn (gExc x) (aCons f aNil)) := fun X ca lev W C => by
  have T := C.lib.exc x (List.contains_iff_mem.mp hx)
  refine PE.imp (pe_callC (EVX.call_err (C.room.rm.mono (Nat.zero_le _)) T) (C.gl hg) T.mg T.keep (okCons hs h okNil X ca lev W C) (plain1 hp).1 (starEach_cons hs) rfl) fun σ H Q q => ?_
  obtain ⟨ρ, S, F, m, w, r, q⟩ := opn_pre q
  refine ⟨ρ, S, F, m, w, r, Post.mono q fun ds S1 F1 H1 m1 e1 g1 q1 vs rvs => ?_⟩
  obtain ⟨F2, m2, S2, es2, b, w2, r2, e, o⟩ := q1 vs rvs
  unfold gExc at e
  split at e
  · cases e
    obtain ⟨y, rfl, ry⟩ := r2.one'
    exact ⟨y, rfl, fun a dx ha hd hne => Outs.exc w2 o ry a dx ha hd hne⟩
  · cases e
theorem op1_pre {X : Cx} {W : WX} {ca : Ca} {g : Cells → D → Option B} {fa : SE} {σ : St} {H : Hp} {Q : VK} (h : tE X.K W (cOp1 g fa ca) σ H Q) : tE X.K W (fa ca) σ H fun x H1 => rD1 X.K g x H1 Q := by
  obtain ⟨ρ, S, F, m, w, r, q⟩ := h
  refine tE.ofF w r (Post.mono (Post.bind q) fun b S1 F1 H1 m1 e1 g1 q1 x rx => ?_)
  obtain ⟨bb, e3, o⟩ := post_lift (fun p h0 => g1.fresh h0) q1
  exact ⟨F1, m1, S1, b.1, bb, g1.w, rx, e3, o⟩
theorem okIsE {c : Str} {e : Expr} {p p2 pos : Pos} {f : SE} (hc : pg.excs.contains c = true) (hg : glB sc "isinstance" = true) (hb : pg.blts.contains "isinstance" = true) (hgc : glB sc c = true) (hpc : plainName c = true) (hs : noStar e = true) (h : OkE pg N sc e f) :
    OkE pg N sc (.Call (.Name "isinstance" p) [e, .Name c p2] [] pos) (cOp1 (gIsE pg.excs c) f) := fun X ca lev W C => by
  have T := C.lib.exc c (List.contains_iff_mem.mp hc)
  refine PE.imp (pe_callB EVX.call_isX (C.gl hg) (C.lib.blt _ (List.contains_iff_mem.mp hb)) (by boot_by_name) (pa_cons (h X ca lev W C) (pa_cons (pe_glob (C.gl hgc) T.mg (show RelV (.ref (He.ga X.K c)) (.ref (He.ga X.K c)) from rfl) (plain1 hpc).1) pa_nil rfl) (starEach_cons hs)) (by decide) (by decide) (starEach_cons hs) rfl) fun σ H Q q => ?_
  have q := op1_pre q
  obtain ⟨ρ, S, F, m, w, r, q⟩ := q
  refine ⟨ρ, S, F, m, w, r, Post.mono q fun b S1 F1 H1 m1 e1 g1 q1 x rx => ?_⟩
  obtain ⟨F2, m2, S2, d, bb, w2, r2, e, o⟩ := q1 x rx
  unfold gIsE at e
  split at e
  · rename_i c' d'
    split at e
    · rename_i hc'
      cases e
      simp only [Rep] at r2
      obtain ⟨a, dx, y, rfl, h1, h2, h3⟩ := r2
      exact ⟨a, _, dx, _, _, _, _, rfl, w2.sub _ _ h1, w2.sub _ _ h2, ClsV.own _, C.lib.sub c' c (List.contains_iff_mem.mp hc') (List.contains_iff_mem.mp hc), ⟨_, _, c', rfl, C.lib.exc c' (List.contains_iff_mem.mp hc')⟩, o.val w2 (rep_bl _)⟩
    · cases e
  · cases e
theorem okVl {e : Expr} {pos : Pos} {f : SE} (hn : notCallE e = true) (h : OkE pg N sc e f) : OkE pg N sc (.Attribute e "value" pos) (cOp1 (gVal pg.excs) f) := fun X ca lev W C => by
  refine PE.imp (EVX.pe_vl (h X ca lev W C) (abase hn)) fun σ H Q q => ?_
  have q := op1_pre q
  obtain ⟨ρ, S, F, m, w, r, q⟩ := q
  refine ⟨ρ, S, F, m, w, r, Post.mono q fun b S1 F1 H1 m1 e1 g1 q1 x rx => ?_⟩
  obtain ⟨F2, m2, S2, d, bb, w2, r2, e, o⟩ := q1 x rx
  unfold gVal at e
  split at e
  · rename_i c' d'
    split at e
    · rename_i hc'
      cases e
      simp only [Rep] at r2
      obtain ⟨a, dx, y, rfl, h1, h2, h3⟩ := r2
      exact ⟨a, dx, y, _, _, c', rfl, C.lib.exc c' (List.contains_iff_mem.mp hc'), w2.sub _ _ h1, w2.sub _ _ h2, o.val w2 h3⟩
    · cases e
  · cases e
end
end EV

namespace EV
open PySem PySem.Spec PyProof.Rows L2

/-! ### ** and wide * -/
def nbits (n : Nat) : Nat := if n = 0 then 0 else n.log2 + 1
theorem nbits_lt (n : Nat) : n < 2 ^ nbits n := by
  unfold nbits
  split
  · subst_vars; decide
  · exact Nat.lt_log2_self
def powOk (i j : Int) : Bool := decide (0 ≤ j) && decide (nbits i.natAbs * j.toNat ≤ 134217728)
def CPowX (i j : Int) : Prop := 0 ≤ j ∧ (Builtin.Int.intBits i : Int) * j ≤ 2 ^ 27
theorem powOk_ok {i j : Int} (h : powOk i j = true) : CPowX i j := by
  unfold powOk at h
  simp only [Bool.and_eq_true, decide_eq_true_eq] at h
  refine ⟨h.1, ?_⟩
  have x := PyProof.Rows.intBits_le (nbits_lt i.natAbs)
  have hj : j = (j.toNat : Int) := by omega
  rw [hj, ← Int.natCast_mul]
  have : Builtin.Int.intBits i * j.toNat ≤ 134217728 := Nat.le_trans (Nat.mul_le_mul_right _ x) h.2
  have e : (2 : Int) ^ 27 = ((134217728 : Nat) : Int) := by decide
  rw [e]
  exact Int.ofNat_le.mpr this
def dPow := dInt powOk fun i j => i ^ j.toNat
section
variable {X : Cx}
theorem op_powX : OpR X (binaryOp .Pow) (rI CPowX fun i j => .int (i ^ j.toNat)) := opI fun _ _ _ _ _ _ _ hc q => pow_int hc.1 hc.2 q
theorem opPow : OpR X (binaryOp .Pow) (rD2 X.K dPow) := opInt op_powX fun i j h => powOk_ok h
def mulXOk (i j : Int) : Bool := decide (nbits i.natAbs + nbits j.natAbs ≤ 134217728)
theorem opMulX : OpR X (binaryOp .Mult) (rD2 X.K (dInt mulXOk fun i j => i * j)) := opInt op_mulX fun i j h => mulx_ok (nbits_lt _) (nbits_lt _) (of_decide_eq_true h)
end

/-! ### list(range(..)) -/
def gLR (_ : Cells) : D → Option B
  | .int j => if rngOk j && decide (j.toNat ≤ 16777216) then some (.lst (rangeD 0 j.toNat), true) else none
  | _ => none
def gLR2 (_ : Cells) : D → D → Option B
  | .int i, .int j => if rngOk i && rngOk j && decide ((j - i).toNat ≤ 16777216) then some (.lst (rangeD i (j - i).toNat), true) else none
  | _, _ => none
theorem repL_range {K : PySem.W.Frag} {F : Hp} {m : List Addr} (lo : Int) : ∀ (n : Nat) (f : Nat → Int), RepL K F m ((List.range n).map fun i => D.int (f i)) ((List.range n).map fun i => V.int (f i))
  | 0, _ => by simp only [List.range_zero, List.map_nil]; exact .nil
  | n + 1, f => by
    rw [List.range_succ, List.map_append, List.map_append]
    exact (repL_range lo n f).append (.one (rep_int _))
theorem tE.monoQ {K : PySem.W.Frag} {W : WX} {f : En → Cells → R B} {σ : St} {H : Hp} {Q Q' : VK} (h : tE K W f σ H Q) (k : ∀ v H', Q v H' → Q' v H') : tE K W f σ H Q' := by
  obtain ⟨ρ, S, F, m, w, r, q⟩ := h
  exact ⟨ρ, S, F, m, w, r, Post.mono q fun b S1 F1 H1 m1 e1 g1 q1 v rv => k v H1 (q1 v rv)⟩
section
variable {pg : Pg} {N : List Str} {sc : Scope}
theorem okListRg {a : Expr} {p p2 pos pos2 : Pos} {f : SE} (hg : glB sc "list" = true) (hb : pg.blts.contains "list" = true) (hg2 : glB sc "range" = true) (hb2 : pg.blts.contains "range" = true) (hs : noStar a = true) (h : OkE pg N sc a f) :
    OkE pg N sc (.Call (.Name "list" p) [.Call (.Name "range" p2) [a] [] pos2] [] pos) (cOp1 gLR f) := fun X ca lev W C => by
  refine PE.imp (pe_listRg C.calm (C.gl hg) (C.lib.blt _ (List.contains_iff_mem.mp hb)) (prg_1 (C.gl hg2) (C.lib.blt _ (List.contains_iff_mem.mp hb2)) (h X ca lev W C) (starEach_cons hs)) rfl) fun σ H Q q => ?_
  have q := op1_pre q
  obtain ⟨ρ, S, F, m, w, r, q⟩ := q
  refine ⟨ρ, S, F, m, w, r, Post.mono q fun b S1 F1 H1 m1 e1 g1 q1 x rx => ?_⟩
  obtain ⟨F2, m2, S2, d, bb, w2, r2, e, o⟩ := q1 x rx
  unfold gLR at e
  split at e
  · split at e
    · rename_i j hc
      cases e
      simp only [Rep] at r2
      subst r2
      simp only [Bool.and_eq_true, rngOk, decide_eq_true_eq] at hc
      refine ⟨j, rfl, ⟨by decide, by decide, by omega, by omega, by omega⟩, fun p hp => ?_⟩
      refine Outs.lst w2 o ?_ ?_ p hp
      · unfold rangeD rgV
        rw [Int.sub_zero]
        exact repL_range 0 _ _
      · rw [rgV_length, line24]; omega
    · cases e
  · cases e
theorem okListRg2 {a b : Expr} {p p2 pos pos2 : Pos} {f g : SE} (hg : glB sc "list" = true) (hb : pg.blts.contains "list" = true) (hg2 : glB sc "range" = true) (hb2 : pg.blts.contains "range" = true) (hs : noStar a = true) (hs2 : noStar b = true) (h : OkE pg N sc a f) (h2 : OkE pg N sc b g) :
    OkE pg N sc (.Call (.Name "list" p) [.Call (.Name "range" p2) [a, b] [] pos2] [] pos) (cOp2 gLR2 f g) := fun X ca lev W C => by
  refine PE.imp (pe_listRg C.calm (C.gl hg) (C.lib.blt _ (List.contains_iff_mem.mp hb)) (prg_2 (C.gl hg2) (C.lib.blt _ (List.contains_iff_mem.mp hb2)) (h X ca lev W C) (h2 X ca lev W C) (by rw [starEach_cons hs]) (starEach_cons hs2) (noStar_any (by simp [hs2]))) rfl) fun σ H Q q => ?_
  refine (op2_pre q).monoQ fun x H1 q1 => tE.monoQ q1 fun y H2 q2 => ?_
  obtain ⟨F, m, S, d, e, b, w, r1, r2, he, o⟩ := q2
  unfold gLR2 at he
  split at he
  · split at he
    · rename_i i j hc
      cases he
      simp only [Rep] at r1 r2
      subst r1 r2
      simp only [Bool.and_eq_true, rngOk, decide_eq_true_eq] at hc
      refine ⟨i, j, rfl, rfl, ⟨by omega, by omega, by omega, by omega, by omega⟩, fun p hp => ?_⟩
      refine Outs.lst w o ?_ ?_ p hp
      · exact repL_range i _ _
      · rw [rgV_length, line24]; omega
    · cases he
  · cases he
theorem okIsVE {e : Expr} {p p2 pos : Pos} {f : SE} (hg : glB sc "isinstance" = true) (hb : pg.blts.contains "isinstance" = true) (hgc : glB sc "ValueError" = true) (hbc : pg.blts.contains "ValueError" = true) (hs : noStar e = true) (h : OkE pg N sc e f) :
    OkE pg N sc (.Call (.Name "isinstance" p) [e, .Name "ValueError" p2] [] pos) (cOp1 (gIsVE pg.excs) f) := fun X ca lev W C => by
  refine PE.imp (pe_callB EVX.call_isX (C.gl hg) (C.lib.blt _ (List.contains_iff_mem.mp hb)) (by boot_by_name) (pa_cons (h X ca lev W C) (pa_cons (pe_bltn (v := .ty "ValueError") (C.gl hgc) (C.lib.blt _ (List.contains_iff_mem.mp hbc)) PyProof.Rows.Boot.«ValueError» rfl) pa_nil rfl) (starEach_cons hs)) (by decide) (by decide) (starEach_cons hs) rfl) fun σ H Q q => ?_
  have q := op1_pre q
  obtain ⟨ρ, S, F, m, w, r, q⟩ := q
  refine ⟨ρ, S, F, m, w, r, Post.mono q fun b S1 F1 H1 m1 e1 g1 q1 x rx => ?_⟩
  obtain ⟨F2, m2, S2, d, bb, w2, r2, e, o⟩ := q1 x rx
  unfold gIsVE at e
  split at e
  · rename_i c' d'
    split at e
    · rename_i hc'
      cases e
      simp only [Rep] at r2
      obtain ⟨a, dx, y, rfl, h1, h2, h3⟩ := r2
      exact ⟨a, _, dx, _, _, _, _, rfl, w2.sub _ _ h1, w2.sub _ _ h2, ClsV.ty _, C.lib.ve c' (List.contains_iff_mem.mp hc'), ⟨_, _, c', rfl, C.lib.exc c' (List.contains_iff_mem.mp hc')⟩, o.val w2 (rep_bl _)⟩
    · cases e
  · cases e
end

/-! ### repr -/
mutual
def toR : D → PyData
  | .bl b => .bool b
  | .int i => .int i
  | .str x => .str x
  | .tup ds => .tuple (toRL ds)
  | .lst ds => .list (toRL ds)
  | .dic ks vs => .dict ((toRL ks).zip (toRL vs))
  | _ => .none
def toRL : List D → List PyData
  | [] => []
  | d :: ds => toR d :: toRL ds
end
mutual
def rpl : D → Bool
  | .non => true
  | .bl _ => true
  | .int _ => true
  | .str _ => true
  | .tup ds => rplL ds
  | .lst ds => rplL ds
  | .dic _ vs => rplL vs
  | _ => false
def rplL : List D → Bool
  | [] => true
  | d :: ds => rpl d && rplL ds
end
def encK : Key → PyData
  | .inl i => .int i
  | .inr x => .str x
theorem toRL_keys {K : PySem.W.Frag} {F : Hp} {m : List Addr} : ∀ {ks : List D} {l : List (Key × V)}, RepL K F m ks (l.map fun q => kV q.1) → toRL ks = l.map fun q => encK q.1
  | [], l, h => by
    simp only [RepL] at h
    have : l = [] := by simpa using h
    subst this
    rfl
  | d :: ds, l, h => by
    simp only [RepL] at h
    obtain ⟨x, xs, e, r, q⟩ := h
    cases l with
    | nil => cases e
    | cons p l =>
      simp only [List.map_cons, List.cons.injEq] at e
      obtain ⟨e1, e2⟩ := e
      subst e2
      have ih := toRL_keys q
      simp only [toRL, List.map_cons, ih]
      congr 1
      obtain ⟨k, v⟩ := p
      subst e1
      cases k with
      | inl i =>
        cases d <;> simp only [Rep, kV] at r
        case int => cases r; rfl
        all_goals first | (cases r; done) | (obtain ⟨z, _⟩ := r; cases z; done) | (obtain ⟨_, _, z, _⟩ := r; cases z; done) | (obtain ⟨_, z, _⟩ := r; cases z; done) | (obtain ⟨_, _, _, z, _⟩ := r; cases z; done) | (obtain ⟨_, _, z⟩ := r; cases z; done)
      | inr i =>
        cases d <;> simp only [Rep, kV] at r
        case str => obtain ⟨z, _⟩ := r; cases z; rfl
        all_goals first | (cases r; done) | (obtain ⟨z, _⟩ := r; cases z; done) | (obtain ⟨_, _, z, _⟩ := r; cases z; done) | (obtain ⟨_, z, _⟩ := r; cases z; done) | (obtain ⟨_, _, _, z, _⟩ := r; cases z; done) | (obtain ⟨_, _, z⟩ := r; cases z; done)
theorem kv_vals {l : List (Key × V)} {ws : List (Key × Value)} (h : KV l ws) : Vals (l.map (·.2)) (ws.map (·.2)) := by
  unfold KV at h
  induction h with
  | nil => exact .nil
  | cons h t ih => exact .cons h.2 ih
theorem kv_enc {l : List (Key × V)} {ws : List (Key × Value)} (h : KV l ws) : (l.map fun q => encK q.1) = ws.map fun q => encK q.1 := by
  unfold KV at h
  induction h with
  | nil => rfl
  | cons h t ih => simp only [List.map_cons, ih, h.1]
section
variable {X : Cx} {pins : List (Addr × Obj)} {σ : St} {H F : Hp} {s : Shared} {m : List Addr}
theorem not_sys (I : Inv X pins σ H s) (hs : (X.K.lookup sysModules).isSome = true) {a : Addr} {o : HO} (h : H a = some o) : sysModules ≠ a := fun e => by
  obtain ⟨ob, q⟩ := Option.isSome_iff_exists.mp hs
  have := (I.bs _ _ (I.ok.mod.kin _ _ q)).2
  rw [e, h] at this
  cases this
mutual
theorem Rep.reads (I : Inv X pins σ H s) (hs : (X.K.lookup sysModules).isSome = true) (sb : Sub F H) : ∀ (d : D) (v : V) (u : Value), rpl d = true → Rep X.K F m d v → RelV v u → ∃ as, Reads s.heap u (toR d) as ∧ sysModules ∉ as
  | .non, _, _, _, h, r => by simp only [Rep] at h; subst h; cases r; exact ⟨_, Reads.none, by simp⟩
  | .bl b, _, _, _, h, r => by simp only [Rep] at h; subst h; cases r; exact ⟨_, Reads.bool b, by simp⟩
  | .int i, _, _, _, h, r => by simp only [Rep] at h; subst h; obtain ⟨t, rfl⟩ := r; exact ⟨_, Reads.int i t, by simp⟩
  | .str x, _, _, _, h, r => by simp only [Rep] at h; obtain ⟨rfl, _⟩ := h; obtain ⟨t, rfl⟩ := r; exact ⟨_, Reads.str x t, by simp⟩
  | .tup ds, _, _, p, h, r => by
    simp only [Rep] at h; simp only [rpl] at p; simp only [toR]
    obtain ⟨a, xs, rfl, h1, _, rl⟩ := h
    cases r
    obtain ⟨its, rv, ⟨o, ho, hc, n, hd⟩, _⟩ := I.tuple (SqT.sub sb h1)
    obtain ⟨as, hr, ns⟩ := RepL.reads I hs sb ds xs its p rl rv
    exact ⟨_, Reads.tuple ho hc hd hr, ns⟩
  | .lst ds, _, _, p, h, r => by
    simp only [Rep] at h; simp only [rpl] at p; simp only [toR]
    obtain ⟨a, xs, rfl, h1, _, rl⟩ := h
    cases r
    obtain ⟨its, rv, ⟨o, n, ho, hc, _, hd⟩, _⟩ := I.list (SqL.of (sb _ _ h1))
    obtain ⟨as, hr, ns⟩ := RepL.reads I hs sb ds xs its p rl rv
    exact ⟨_, Reads.list ho hc hd hr, by
      intro z
      rcases List.mem_cons.mp z with z | z
      · exact not_sys I hs (sb _ _ h1) z
      · exact ns z⟩
  | .dic ks vs, _, _, p, h, r => by
    simp only [Rep] at h; simp only [rpl] at p; simp only [toR]
    obtain ⟨a, kvs, rfl, h1, _, rk, rl⟩ := h
    cases r
    obtain ⟨_, _, ws, hkv, hd⟩ := dk_of I.hok (sb _ _ h1)
    have rv := kv_vals hkv
    obtain ⟨as, hr, ns⟩ := RepL.reads I hs sb vs _ _ p rl rv
    have ek : (toRL ks) = ws.map fun q => encK q.1 := by
      rw [toRL_keys rk]
      exact kv_enc hkv
    have pr : PyProof.V.PairsRead s.heap encK ws ((toRL ks).zip (toRL vs)) as := by
      rw [ek]
      clear ek h1 rk rl hd rv hkv p
      revert hr
      generalize toRL vs = ds
      clear ns
      intro hr
      induction ws generalizing ds as with
      | nil => cases hr; exact .nil
      | cons q qs ih =>
        cases hr with
        | cons r1 r2 =>
          obtain ⟨k, v⟩ := q
          exact .cons r1 (ih _ _ r2)
    exact ⟨_, PyProof.V.reads_dictOf (enc := encK) (fun k key z => by
      rcases keyIs_shape z with ⟨i, t, rfl, rfl⟩ | ⟨x, t, rfl, rfl⟩
      · exact Reads.int i t
      · exact Reads.str x t) hd pr, by
      intro z
      rcases List.mem_cons.mp z with z | z
      · exact not_sys I hs (sb _ _ h1) z
      · exact ns z⟩
  | .ins .., _, _, p, _, _ => by simp only [rpl] at p; cases p
  | .exc .., _, _, p, _, _ => by simp only [rpl] at p; cases p
  | .cel .., _, _, p, _, _ => by simp only [rpl] at p; cases p
  | .scr .., _, _, p, _, _ => by simp only [rpl] at p; cases p
theorem RepL.reads (I : Inv X pins σ H s) (hs : (X.K.lookup sysModules).isSome = true) (sb : Sub F H) : ∀ (ds : List D) (vs : List V) (us : List Value), rplL ds = true → RepL X.K F m ds vs → Vals vs us → ∃ as, ReadsAll s.heap us (toRL ds) as ∧ sysModules ∉ as
  | [], _, _, _, h, r => by simp only [RepL] at h; subst h; cases r; simp only [toRL]; exact ⟨_, ReadsAll.nil, by simp⟩
  | d :: ds, _, _, p, h, r => by
    simp only [RepL] at h; simp only [rplL, Bool.and_eq_true] at p; simp only [toRL]
    obtain ⟨x, xs, rfl, h1, h2⟩ := h
    cases r with
    | cons r1 r2 =>
      obtain ⟨as, q1, n1⟩ := Rep.reads I hs sb d _ _ p.1 h1 r1
      obtain ⟨bs, q2, n2⟩ := RepL.reads I hs sb ds _ _ p.2 h2 r2
      exact ⟨_, ReadsAll.cons q1 q2, fun z => by
        rcases List.mem_append.mp z with z | z
        · exact n1 z
        · exact n2 z⟩
end
end
end EV

namespace EV
open PySem PySem.Spec PyProof.Rows L2
def shwOk (d : D) : Bool := rpl d && (toR d).showable && decide ((toR d).depth ≤ 100) && decide ((toR d).shown.length ≤ 16777216) && cpOk (toR d).shown
def gRepr (_ : Cells) (d : D) : Option B := if shwOk d then some (.str (toR d).shown, false) else none
section
variable {X : Cx}
theorem crRepr (rm : Rm 0 X.A) (hs : (X.K.lookup sysModules).isSome = true) : CallR X (.builtin "repr") (fun xs H Q => ∃ x, xs = [x] ∧ rD1 X.K gRepr x H Q) := by
  intro pins s σ H xs us Q I r h
  obtain ⟨x, rfl, F, m, S, d, b, w, rx, e, o⟩ := h
  unfold gRepr at e
  split at e
  · rename_i hc
    cases e
    unfold shwOk at hc
    simp only [Bool.and_eq_true, decide_eq_true_eq] at hc
    obtain ⟨⟨⟨⟨c1, c2⟩, c3⟩, c4⟩, c5⟩ := hc
    have c4' : (toR d).shown.length ≤ sizeLine := by rw [line24]; exact c4
    obtain ⟨u, rfl, ru⟩ := vals1 r
    have ov : Q (.str (toR d).shown) H := o.val w (by simp only [Rep]; exact ⟨trivial, c4', c5⟩)
    have hu : X.A.units + ((toR d).depth + 1) < cLine := by have := rm.rm.un; omega
    obtain ⟨as, rd, ns⟩ := Rep.reads I hs w.sub d x u c1 rx ru
    cases u with
    | ref a => exact repr_of_reads' rd c2 (fun _ => ns) rm.gd hu (fun _ _ z => z) (fun h' t tk hk => ⟨.str _, H, I.kept hk, ⟨t, rfl⟩, ov⟩) c4'
    | none => generalize toR d = q at *; cases rd; exact PySem.P.repr_of_none ⟨.str _, H, I.tok _, ⟨_, rfl⟩, ov⟩
    | bool z => generalize toR d = q at *; cases rd; exact PySem.P.repr_of_bool ⟨.str _, H, I.tok _, ⟨_, rfl⟩, ov⟩
    | int z t => generalize toR d = q at *; cases rd; exact PySem.P.repr_of_int (of_decide_eq_true c2) ⟨.str _, H, I.tok _, ⟨_, rfl⟩, ov⟩
    | str z t => generalize toR d = q at *; cases rd; exact PySem.P.repr_of_str ⟨.str _, H, I.tok _, ⟨_, rfl⟩, ov⟩ c4'
    | _ => generalize toR d = q at *; cases rd
  · cases e
end
section
variable {pg : Pg} {N : List Str} {sc : Scope}
theorem okRepr {e : Expr} {p pos : Pos} {f : SE} (hg : glB sc "repr" = true) (hb : pg.blts.contains "repr" = true) (hs : noStar e = true) (h : OkE pg N sc e f) : OkE pg N sc (.Call (.Name "repr" p) [e] [] pos) (cOp1 gRepr f) := fun X ca lev W C => by
  refine PE.imp (pe_callB (crRepr (C.room.mono (Nat.zero_le _)) C.lib.sys) (C.gl hg) (C.lib.blt _ (List.contains_iff_mem.mp hb)) (by boot_by_name) (pa_cons (h X ca lev W C) pa_nil (starEach_cons hs)) (by decide) (by decide) (starEach_cons hs) rfl) fun σ H Q q => ?_
  exact (op1_pre q).monoQ fun x H1 q1 => ⟨x, rfl, q1⟩
/-! ### a dict displayed, its keys texts -/
def keyD : Key → D
  | .inl i => .int i
  | .inr x => .str x
def keyB : Key → Bool
  | .inl _ => true
  | .inr x => decide (x.length ≤ 16777216) && cpOk x
def nodupB : List Key → Bool
  | [] => true
  | k :: ks => !(ks.any fun z => decide (z = k)) && nodupB ks
def gDic (ks : List Key) (_ : Cells) (ds : List D) : Option B := if ds.length = ks.length then some (.dic (ks.map keyD) ds, false) else none
def keyE : Expr → Option Key
  | .Constant (.str x) _ _ => some (.inr x)
  | .Constant (.int i) _ _ => some (.inl i)
  | _ => none
def keysE : List (Option Expr) → Option (List Key)
  | [] => some []
  | some e :: es => match keyE e, keysE es with
    | some k, some ks => if keyB k then some (k :: ks) else none
    | _, _ => none
  | none :: _ => none
theorem pe_key {X : Cx} {e : Expr} {k : Key} (h : keyE e = some k) : PE X e (tC (kV k)) := by
  unfold keyE at h
  split at h
  · cases h; exact pe_str
  · cases h; exact pe_int
  · cases h
/-- the pairs of a display -/
theorem okPairs {X : Cx} {ca : Ca} {lev : Nat} {W : WX} (C : Ctx X sc N pg ca lev W) {pos : Pos} : ∀ {keys : List (Option Expr)} {values : List Expr} {ks : List Key} {fs : List SE}, keysE keys = some ks → keys.length = values.length → values.length = fs.length →
    (∀ (i : Nat) e f, values[i]? = some e → fs[i]? = some f → OkE pg N sc e f) →
    ∃ trs, PPs X pos keys values trs ∧ ∀ σ H Q, tA X.K W (fs.foldr aCons aNil ca) σ H (fun vs H' => Q ((ks.zip vs).map (fun kv => (kV kv.1, kv.2))) H') → tPairs trs σ H Q
  | [], [], ks, [], hk, _, _, _ => by
    cases hk
    refine ⟨[], pps_nil, fun σ H Q ⟨ρ, S, F, m, w, r, q⟩ => q F H m (Gr.refl w) [] .nil⟩
  | some e :: es, v :: vs, ks, f :: fs, hk, hl, hf, h => by
    unfold keysE at hk
    split at hk
    · rename_i k ks' h1 h2
      split at hk
      · cases hk
        obtain ⟨trs, p, q⟩ := okPairs C (pos := pos) h2 (by simpa using hl) (by simpa using hf) (fun i e f a b => h (i + 1) e f a b)
        refine ⟨(tC (kV k), tE X.K W (f ca)) :: trs, pps_cons (pe_key h1) (h 0 v f rfl rfl X ca lev W C) p, fun σ H Q ⟨ρ, S, F, m, w, r, z⟩ => ?_⟩
        show tE X.K W (f ca) σ H _
        refine tE.ofF w r (Post.mono (Post.bind z) fun b S1 F1 H1 m1 e1 g1 z1 y ry => ?_)
        refine q σ H1 _ ⟨ρ, S1, F1, m1, g1.w, r.gr g1, Post.mono (Post.bind z1) fun ds S2 F2 H2 m2 e2 g2 z2 us rus => ?_⟩
        exact z2 F2 H2 m2 (Gr.refl g2.w) (y :: us) (.cons (ry.gr g2) rus)
      · cases hk
    · cases hk
  | [], _ :: _, _, _, _, hl, _, _ => by simp at hl
  | _ :: _, [], _, _, _, hl, _, _ => by simp at hl
  | [], [], _, _ :: _, _, _, hf, _ => by simp at hf
  | _ :: _, _ :: _, _, [], _, _, hf, _ => by simp at hf
  | none :: _, _ :: _, _, _ :: _, hk, _, _, _ => by cases hk
theorem putK_end {kvs : List (Key × V)} {k : Key} {v : V} (h : (kvs.any fun z => decide (z.1 = k)) = false) : putK kvs k v = kvs ++ [(k, v)] := by
  unfold putK
  rw [h]
  simp
theorem merge_nodup : ∀ (more kvs : List (Key × V)), nodupB (more.map (·.1)) = true → (∀ p ∈ more, (kvs.any fun z => decide (z.1 = p.1)) = false) → mergeK kvs more = kvs ++ more
  | [], kvs, _, _ => by simp [mergeK]
  | (k, v) :: more, kvs, hn, hd => by
    show mergeK (putK kvs k v) more = _
    simp only [List.map_cons, nodupB, Bool.and_eq_true, Bool.not_eq_true'] at hn
    rw [putK_end (hd (k, v) (List.mem_cons_self ..)), merge_nodup more _ hn.2 (fun p hp => ?_)]
    · simp
    · rw [List.any_append, hd p (List.mem_cons_of_mem _ hp)]
      simp only [List.any_cons, List.any_nil, Bool.or_false, Bool.false_or, decide_eq_false_iff_not]
      intro e
      have := hn.1
      rw [List.any_eq_false] at this
      exact this p.1 (List.mem_map_of_mem hp) (by simp [e])
theorem repL_keys {K : PySem.W.Frag} {F : Hp} {m : List Addr} : ∀ {ks : List Key} {vs : List V}, ks.all keyB = true → vs.length = ks.length → RepL K F m (ks.map keyD) ((ks.zip vs).map fun q => kV q.1)
  | [], vs, _, _ => by simp only [List.map_nil, List.zip_nil_left]; exact .nil
  | k :: ks, [], _, h => by simp at h
  | k :: ks, v :: vs, hb, h => by
    simp only [List.all_cons, Bool.and_eq_true] at hb
    simp only [List.map_cons, List.zip_cons_cons]
    refine .cons ?_ (repL_keys hb.2 (by simpa using h))
    cases k with
    | inl i => exact rep_int i
    | inr x =>
      have := hb.1
      simp only [keyB, Bool.and_eq_true, decide_eq_true_eq] at this
      show Rep _ _ _ (.str x) (.str x)
      simp only [Rep]
      rw [line24]
      exact ⟨trivial, this.1, this.2⟩
theorem zip_snd {α β : Type} : ∀ {ks : List α} {vs : List β}, vs.length = ks.length → (ks.zip vs).map (·.2) = vs
  | [], [], _ => rfl
  | k :: ks, v :: vs, h => by simp only [List.zip_cons_cons, List.map_cons, zip_snd (by simpa using h : vs.length = ks.length)]
  | [], v :: vs, h => by simp at h
  | k :: ks, [], h => by simp at h
theorem zip_fst {α β : Type} : ∀ {ks : List α} {vs : List β}, vs.length = ks.length → (ks.zip vs).map (·.1) = ks
  | [], [], _ => rfl
  | k :: ks, v :: vs, h => by simp only [List.zip_cons_cons, List.map_cons, zip_fst (by simpa using h : vs.length = ks.length)]
  | [], v :: vs, h => by simp at h
  | k :: ks, [], h => by simp at h
theorem keysE_ok : ∀ {keys : List (Option Expr)} {ks : List Key}, keysE keys = some ks → ks.all keyB = true ∧ keys.all (·.isSome) = true ∧ ks.length = keys.length
  | [], ks, h => by cases h; exact ⟨rfl, rfl, rfl⟩
  | some e :: es, ks, h => by
    unfold keysE at h
    split at h
    · rename_i k ks' h1 h2
      split at h
      · rename_i hb
        cases h
        obtain ⟨a, b, c⟩ := keysE_ok h2
        exact ⟨by simp [hb, a], by simpa using b, by simp [c]⟩
      · cases h
    · cases h
  | none :: _, _, h => by cases h
theorem okDic {keys : List (Option Expr)} {values : List Expr} {pos : Pos} {ks : List Key} {fs : List SE} (hk : keysE keys = some ks) (hn : nodupB ks = true) (hl : keys.length = values.length) (h0 : keys ≠ []) (h15 : keys.length ≤ 15) (hf : values.length = fs.length)
    (h : ∀ (i : Nat) e f, values[i]? = some e → fs[i]? = some f → OkE pg N sc e f) : OkE pg N sc (.Dict keys values pos) (cOpn (gDic ks) (fs.foldr aCons aNil)) := fun X ca lev W C => by
  obtain ⟨trs, p, q⟩ := okPairs C (pos := pos) hk hl hf h
  obtain ⟨kb, ka, kl⟩ := keysE_ok hk
  refine PE.imp (pe_disp p ka hl h0 h15) fun σ H Q z => ?_
  intro a ha
  obtain ⟨ρ, S, F, m, w, r, z⟩ := z
  have g0 := Gr.lay (o := .dK []) w ha
  refine q σ _ _ ⟨ρ, S, F, m, g0.w, r, ?_⟩
  have z1 := Post.bind z
  cases e : fs.foldr aCons aNil ca ρ S with
  | no => rw [e] at z1; exact z1.elim
  | exn c d S1 =>
    rw [e] at z1
    exact Wish.gr g0 z1
  | ok ds S1 =>
    rw [e] at z1
    intro F1 H1 m1 g1 vs rvs
    have fr := g1.frm a _ upd_same (w.newF ha) (w.newNot ha)
    have hH : ∀ b, b ≠ a → ∀ u, upd H1 a u b = H1 b := fun b hb u => upd_ne hb
    have G : ∀ u : HO, Gr X.K F H m (upd F1 a u) (upd H1 a u) m1 S1 := fun u => by
      have g01 := g0.trans g1
      have w1 : Wd X.K F1 (upd H1 a u) m1 S1 := ⟨fun b v e => by
          rw [upd_ne (fun z => by rw [z, fr.2.1] at e; cases e)]; exact g1.w.sub b v e, g1.w.len, g1.w.nd, fun i b es h1 h2 => by
          obtain ⟨y1, y2⟩ := g1.w.cel i b es h1 h2
          have hb : b ≠ a := fun z => fr.2.2 (z ▸ List.mem_of_getElem? h1)
          exact ⟨y1, y2.keep Sub.refl Ext.refl (upd_ne hb)⟩, g1.w.im⟩
      refine ⟨w1.frz upd_same fr.2.2 fr.2.1, g01.up.trans (sub_upd fr.2.1), g01.ext, fun b v h1 h2 h3 => ?_⟩
      obtain ⟨y1, y2, y3⟩ := g01.frm b v h1 h2 h3
      have hb : b ≠ a := fun z => by rw [z, ha] at h1; cases h1
      exact ⟨by rw [upd_ne hb]; exact y1, by rw [upd_ne hb]; exact y2, y3⟩
    have z2 := z1 _ _ m1 (G (.dK (ks.zip vs)))
    have hfr : ∀ p, (upd H1 a (.dK (ks.zip vs))) p = none → H p = none := fun p h0 => (G (.dK (ks.zip vs))).fresh h0
    obtain ⟨b, eb, o⟩ := post_lift (H0 := H) hfr z2
    unfold gDic at eb
    split at eb
    · rename_i hlen
      cases eb
      have hvl : vs.length = ks.length := by rw [← rvs.length]; exact hlen
      refine ⟨fr.1, ks.zip vs, rfl, by simp [hvl]; omega, ?_⟩
      have em : mergeK [] (ks.zip vs) = ks.zip vs := by
        have := merge_nodup (ks.zip vs) [] (by rw [zip_fst hvl]; exact hn) (fun _ _ => rfl)
        simpa using this
      rw [em]
      refine o.val (G _).w ?_
      simp only [Rep]
      refine ⟨a, ks.zip vs, rfl, upd_same, ?_, repL_keys kb hvl, ?_⟩
      · rw [line24]; simp [hvl]; omega
      · rw [zip_snd hvl]
        exact rvs.up (sub_upd fr.2.1) Ext.refl
    · cases eb
theorem okDic0 {pos : Pos} : OkE pg N sc (.Dict [] [] pos) (cOpn (gDic []) aNil) := fun X ca lev W C => by
  refine PE.imp pe_dnewK fun σ H Q z => ?_
  obtain ⟨ρ, S, F, m, w, r, z⟩ := z
  have z1 : Post X.K W σ F H m (lift (gDic [] S []) S) _ := z
  obtain ⟨b, eb, o⟩ := post_lift (H0 := H) (fun _ h => h) z1
  cases eb
  intro p hp
  refine o (.ref p) (upd F p (.dK [])) _ m (Gr.layF w hp) ?_
  show Rep _ _ _ _ _
  simp only [Rep]
  exact ⟨p, [], rfl, upd_same, by simp, .nil, .nil⟩
end
end EV

namespace EV
open PySem PySem.Spec PyProof.Rows L2

/-! ### a, b, .. = x, y, .. -/
/-- the slots is bear vs, all others are as they were -/
def Stored (σ σ' : St) (is : List Nat) (vs : List V) : Prop := σ'.length = σ.length ∧ (∀ k, k ∉ is → σ'[k]? = σ[k]?) ∧ ∀ (j i : Nat) v, is[j]? = some i → vs[j]? = some v → σ'[i]? = some (some v)
theorem Stored.nil {σ : St} : Stored σ σ [] [] := ⟨rfl, fun _ _ => rfl, fun j i v h => by simp at h⟩
theorem Stored.cons {σ σ' : St} {is : List Nat} {vs : List V} {i : Nat} {v : V} (hi : i < σ.length) (hn : i ∉ is) (h : Stored (σ.set i (some v)) σ' is vs) : Stored σ σ' (i :: is) (v :: vs) := by
  obtain ⟨h1, h2, h3⟩ := h
  refine ⟨by simpa using h1, fun k hk => ?_, fun j k w hj hw => ?_⟩
  · simp only [List.mem_cons, not_or] at hk
    rw [h2 k hk.2, List.getElem?_set_ne (Ne.symm hk.1)]
  · cases j with
    | zero =>
      simp at hj hw
      subst hj hw
      rw [h2 i hn, List.getElem?_set_self hi]
    | succ j => exact h3 j k w (by simpa using hj) (by simpa using hw)
theorem Stored.rev {σ σ' : St} {is : List Nat} {vs : List V} (hl : vs.length = is.length) (h : Stored σ σ' is.reverse vs.reverse) : Stored σ σ' is vs := by
  obtain ⟨h1, h2, h3⟩ := h
  refine ⟨h1, fun k hk => h2 k (by simpa using hk), fun j i v hj hv => ?_⟩
  have lt := (List.getElem?_eq_some_iff.mp hj).1
  refine h3 (is.length - 1 - j) i v ?_ ?_
  · rw [List.getElem?_reverse (by omega)]
    rw [← hj]; congr 1; omega
  · rw [List.getElem?_reverse (by omega)]
    rw [← hv]; congr 1; omega
theorem vals_rev {ws : List V} {us : List Value} (h : Vals ws us) : Vals ws.reverse us.reverse := by
  induction h with
  | nil => exact .nil
  | cons a b ih =>
    rw [List.reverse_cons, List.reverse_cons]
    exact Vals.append ih (.cons a .nil)
def tParN (is : List Nat) (ta : TA) : TS := fun Dn σ H => ta σ H fun vs H1 => vs.length = is.length ∧ ∀ σ', Stored σ σ' is vs → Dn.nx σ' H1
section
variable {X : Cx}
/-- names that may be stored: their slots -/
def slotsOk (X : Cx) : List Str → List Nat → Prop
  | [], [] => True
  | x :: xs, i :: is => X.N[i]? = some x ∧ Loc X.env.scope x ∧ (X.fn x = true ∨ X.env.scope.names.lookup x = some .local) ∧ slotsOk X xs is
  | _, _ => False
theorem slotsOk.snoc {X : Cx} {x : Str} {i : Nat} (h : X.N[i]? = some x ∧ Loc X.env.scope x ∧ (X.fn x = true ∨ X.env.scope.names.lookup x = some .local)) : ∀ {xs : List Str} {is : List Nat}, slotsOk X xs is → slotsOk X (xs ++ [x]) (is ++ [i])
  | [], [], _ => ⟨h.1, h.2.1, h.2.2, trivial⟩
  | [], _ :: _, k => k.elim
  | _ :: _, [], k => k.elim
  | _ :: _, _ :: _, ⟨a, b, c, d⟩ => ⟨a, b, c, slotsOk.snoc h d⟩
theorem slotsOk.rev {X : Cx} : ∀ {xs : List Str} {is : List Nat}, slotsOk X xs is → slotsOk X xs.reverse is.reverse
  | [], [], _ => trivial
  | [], _ :: _, k => k.elim
  | _ :: _, [], k => k.elim
  | x :: xs, i :: is, ⟨a, b, c, d⟩ => by
    rw [List.reverse_cons, List.reverse_cons]
    exact slotsOk.snoc ⟨a, b, c⟩ (slotsOk.rev d)
theorem slotsOk.len {X : Cx} : ∀ {xs : List Str} {is : List Nat}, slotsOk X xs is → xs.length = is.length
  | [], [], _ => rfl
  | [], _ :: _, k => k.elim
  | _ :: _, [], k => k.elim
  | _ :: _, _ :: _, ⟨_, _, _, d⟩ => by simp [slotsOk.len d]
theorem names_stored {pins : List (Addr × Obj)} {H : Hp} {Q : Unit → Shared → Prop} {E : Value → Shared → Prop} (hN : X.N.Nodup) : ∀ {xs : List Str} {is : List Nat} {vs : List V} {us : List Value} {σ : St} {s : Shared}, slotsOk X xs is → is.Nodup → Inv X pins σ H s → Vals vs us → vs.length = is.length →
    (∀ σ' s', Stored σ σ' is vs → Inv X pins σ' H s' → Q () s') → wpAny (model X.prog X.w) X.A (assignInOrder (xs.map fun n => bindName X.env n) us) Q E s
  | [], [], vs, us, σ, s, _, _, I, r, hl, h => by
    have : vs = [] := List.eq_nil_of_length_eq_zero hl
    subst this
    exact assignInOrder_nil (h σ s .nil I)
  | [], _ :: _, _, _, _, _, k, _, _, _, _, _ => k.elim
  | _ :: _, [], _, _, _, _, k, _, _, _, _, _ => k.elim
  | x :: xs, i :: is, vs, us, σ, s, ⟨a, b, c, d⟩, hn, I, r, hl, h => by
    cases r with
    | nil => simp at hl
    | @cons v u vs us ru rr =>
      obtain ⟨n1, n2⟩ := List.nodup_cons.mp hn
      have hi : i < σ.length := by rw [I.len]; exact (List.getElem?_eq_some_iff.mp a).1
      refine assignInOrder_cons (wpAny_bindName (store_ok I hN a b ru (fun s2 I2 => ?_) c))
      exact names_stored hN d n2 I2 rr (by simpa using hl) fun σ' s' st I' => h σ' s' (.cons hi n1 st) I'
/-- the targets' names -/
def tgNames : List Expr → Option (List Str)
  | [] => some []
  | .Name x _ :: es => (tgNames es).map (x :: ·)
  | _ => none
theorem tgNames_cons {t : Expr} {ts : List Expr} {xs : List Str} (h : tgNames (t :: ts) = some xs) : ∃ x p ys, t = .Name x p ∧ tgNames ts = some ys ∧ xs = x :: ys := by
  cases t with
  | Name x p =>
    simp only [tgNames] at h
    cases q : tgNames ts with
    | none => rw [q] at h; cases h
    | some ys => rw [q] at h; cases h; exact ⟨x, p, ys, rfl, rfl, rfl⟩
  | _ => cases h
theorem each_name {x : Str} {p : Pos} {ts : List Expr} {env : Env} : assignEach (.Name x p :: ts) env = (false, assign (.Name x p) env) :: assignEach ts env := rfl
theorem each_idx {env : Env} : ∀ {ts : List Expr} {xs : List Str}, tgNames ts = some xs → (assignEach ts env).findIdx? (·.1) = none ∧ (assignEach ts env).length = xs.length
  | [], xs, h => by cases h; exact ⟨rfl, rfl⟩
  | t :: ts, xs, h => by
    obtain ⟨x, p, ys, rfl, q, rfl⟩ := tgNames_cons h
    obtain ⟨b, c⟩ := each_idx (env := env) q
    rw [each_name]
    refine ⟨?_, by simp [c]⟩
    rw [List.findIdx?_cons]
    simp [b]
theorem each_stored {pins : List (Addr × Obj)} {H : Hp} {Q : Unit → Shared → Prop} (hN : X.N.Nodup) : ∀ {ts : List Expr} {xs : List Str} {is : List Nat} {vs : List V} {us : List Value} {σ : St} {s : Shared}, tgNames ts = some xs → slotsOk X xs is → is.Nodup → Inv X pins σ H s → Vals vs us → vs.length = is.length →
    (∀ σ' s', Stored σ σ' is vs → Inv X pins σ' H s' → Q () s') → wpAny (model X.prog X.w) X.A (assignInOrder ((assignEach ts X.env).map (·.2)) us) Q X.xe s
  | [], xs, is, vs, us, σ, s, ht, hs, _, I, r, hl, h => by
    cases ht
    cases is with
    | cons => exact hs.elim
    | nil =>
      have : vs = [] := List.eq_nil_of_length_eq_zero hl
      subst this
      exact assignInOrder_nil (h σ s .nil I)
  | t :: ts, xs, is, vs, us, σ, s, ht, hs, hn, I, r, hl, h => by
    obtain ⟨x, p, ys, rfl, q, rfl⟩ := tgNames_cons ht
    cases is with
    | nil => exact hs.elim
    | cons i is =>
      obtain ⟨a, b, c, d⟩ := hs
      cases r with
      | nil => simp at hl
      | @cons v u vs us ru rr =>
        obtain ⟨n1, n2⟩ := List.nodup_cons.mp hn
        have hi : i < σ.length := by rw [I.len]; exact (List.getElem?_eq_some_iff.mp a).1
        rw [each_name]
        refine assignInOrder_cons (thn ((pg_name hN a b c).run pins s σ H v u (fun σ1 H1 => σ1 = σ.set i (some v) ∧ H1 = H) I ru ⟨rfl, rfl⟩) fun _ s2 ⟨σ1, H1, I2, e1, e2⟩ => ?_)
        subst e1 e2
        exact each_stored hN q d n2 I2 rr (by simpa using hl) fun σ' s' st I' => h σ' s' (.cons hi n1 st) I'
def isStar : Expr → Bool
  | .Starred .. => true
  | _ => false
def swNames (sc : Scope) (ts : List Expr) : List Str := ts.filterMap fun
  | .Name id pos => if sc.names.lookup id == some .local && pos.line == (ts.head?.map (·.pos.line)).getD 0 then some id else none
  | _ => none
def swB (sc : Scope) (ts vs : List Expr) : Option (Option (List Str)) :=
  if !(ts.length == 2 || ts.length == 3) || vs.length != ts.length then some none
  else if vs.any isStar then some none
  else if (swNames sc ts).length != ts.length || (swNames sc ts).eraseDups.length != (swNames sc ts).length then some none
  else if vs.all (foldedForSure 8) then some none
  else if vs.all (constantsAlone 8) then none
  else some (some (swNames sc ts))
theorem swB_ok {env : Env} {ts vs : List Expr} {kt k2 : Nat} {pt p2 : Pos} {o : Option (List Str)} (hk : env.scope.kind = .function) (h : swB env.scope ts vs = some o) : swappedStores [.Tuple ts kt pt] (.Tuple vs k2 p2) env = pure o := by
  have hb : env.blockKind = .function := by unfold Env.blockKind; rw [hk]; rfl
  have hst : (vs.any fun | .Starred .. => true | _ => false) = vs.any isStar := by
    congr 1
  unfold swappedStores
  simp only [hb, bne_self_eq_false, Bool.or_false, pure_bind]
  unfold swB at h
  split at h
  · rename_i c
    cases h
    rw [if_pos c]
  · rename_i c
    rw [if_neg c]
    split at h
    · rename_i c2
      cases h
      rw [if_pos]
      · rw [← hst] at c2
        exact c2
    · rename_i c2
      rw [if_neg (by rw [← hst] at c2; exact c2)]
      show (if ((swNames env.scope ts).length != ts.length || (swNames env.scope ts).eraseDups.length != (swNames env.scope ts).length) = true then pure none
        else if vs.all (foldedForSure 8) = true then pure none else if vs.all (constantsAlone 8) = true then _ else pure (some (swNames env.scope ts)) : Sem (Option (List Str))) = pure o
      split at h
      · rename_i c3
        cases h
        rw [if_pos c3]
      · rename_i c3
        rw [if_neg c3]
        split at h
        · rename_i c4
          cases h
          rw [if_pos c4]
        · rename_i c4
          rw [if_neg c4]
          split at h
          · cases h
          · rename_i c5
            cases h
            rw [if_neg c5]
theorem ps_parN {ts vs : List Expr} {xs : List Str} {is : List Nat} {ta : TA} {kt k2 : Nat} {pt p2 pos : Pos} {o : Option (List Str)} (hc : X.calm = true) (hN : X.N.Nodup) (ht : tgNames ts = some xs) (hs : slotsOk X xs is) (nd : is.Nodup) (ha : PA X vs ta) (hz : is.length ≤ sizeLine)
    (hw : swappedStores [.Tuple ts kt pt] (.Tuple vs k2 p2) X.env = pure o) (ho : o = none ∨ o = some xs) : PS X (.Assign [.Tuple ts kt pt] (.Tuple vs k2 p2) pos) (tParN is ta) := by
  refine ⟨fun pins s σ H Dn I h => ?_⟩
  rw [exec_Assign_arm]
  refine wpAny_bind (wpAny_standAt ?_)
  have hsw : swapsWithSole [.Tuple ts kt pt] (.Tuple vs k2 p2) pos.line X.env = pure false := rfl
  rw [hsw]
  refine wpAny_bind (wpAny_pure ?_)
  rw [if_neg (by decide)]
  refine wpAny_bind (Tuple_ (thn (ha.run _ pins s σ H _ I h) fun us s1 ⟨ws, H1, I1, r1, hl, q1⟩ => ?_))
  have hlu : us.length = is.length := by rw [← hl]; exact (Paired.length r1).symm
  refine wpAny_newObj_type ?_ (by show us.toArray.size ≤ sizeLine; rw [List.size_toArray, hlu]; exact hz)
  have I2 : Inv X pins σ H1 { s1 with heap := s1.heap.push { cls := .type "tuple", data := .seq us.toArray } } := I1.kept (t' := s1.toks) fun b o e => Heap.get?_push_of_some _ e
  have hlx := slotsOk.len hs
  rw [hw]
  refine wpAny_bind (wpAny_pure ?_)
  rcases ho with rfl | rfl
  · show wpAny (model X.prog X.w) X.A (do assignAll (.ref s1.heap.objs.size) ((assignEach [.Tuple ts kt pt] X.env).map (·.2)); pure Flow.next) _ _ _
    refine wpAny_bind ?_
    show wpAny (model X.prog X.w) X.A (assign (.Tuple ts kt pt) X.env (.ref s1.heap.objs.size)) _ _ _
    obtain ⟨z1, z2⟩ := each_idx (env := X.env) ht
    refine assign_Tuple_tuple (I.ok.hd hc) (IsTup.new s1.heap _) (by rw [z2, List.size_toArray, hlu, hlx]) z1 fun h' hx' => ?_
    have I3 := I2.kept (h' := h') (t' := s1.toks) fun b o e => hx' b o (Nat.ne_of_lt (Heap.lt_size e)) e
    exact each_stored hN ht hs nd I3 (by simpa using r1) hl fun σ' s' st I' => wpAny_pure ⟨σ', H1, I', q1 σ' st⟩
  · show wpAny (model X.prog X.w) X.A (do rule "assign.swapped-stores"; let items ← unpackItems (.ref s1.heap.objs.size) xs.length none; assignInOrder (xs.reverse.map fun n => bindName X.env n) items.reverse; pure Flow.next) _ _ _
    refine wpAny_bind (wpAny_rule (wpAny_bind ?_))
    have e1 : xs.length = us.toArray.size := by rw [List.size_toArray, hlu, hlx]
    rw [e1]
    refine unpackItems_tuple (items := us.toArray) (I.ok.hd hc) (IsTup.new s1.heap _) fun h' hx' => ?_
    have I3 := I2.kept (h' := h') (t' := s1.toks) fun b o e => hx' b o (Nat.ne_of_lt (Heap.lt_size e)) e
    refine wpAny_bind (names_stored hN (slotsOk.rev hs) (List.pairwise_reverse.mpr (nd.imp fun h => Ne.symm h)) I3 (vs := ws.reverse) (us := us.toArray.toList.reverse) ?_ (by simp [hl]) fun σ' s' st I' => wpAny_pure ⟨σ', H1, I', q1 σ' (Stored.rev hl st)⟩)
    exact vals_rev r1
end
end EV

namespace EV
open PySem PySem.Spec PyProof.Rows L2
section
variable {K : PySem.W.Frag} {F0 H0 F H F' H' : Hp} {m0 m m' : List Addr} {S S' : Cells} {ρ : SEn} {σ : St} {ms : List Nat}
/-- an expression of a statement, seen from a part of the slots -/
def ex1G (ms : List Nat) (f : SE) (ca : Ca) (ρr : En) (ρ : SEn) (S : Cells) : R (B × SEn) := (f ca ρr S).bind fun b S => .ok (b, after ms ρ b) S
theorem stExG {W : WX} {f : SE} {ca : Ca} {Q : VK} {ρr : En} {σr : St} (g : Gr K F0 H0 m0 F H m S) (s : SEnv K H0 F H m ρ σ) (hr : REnv K (frzM F H (ownPs ms ρ σ)) m ρr σr)
    (h : Post K W σr F0 H0 m0 (ex1G ms f ca ρr ρ S) fun r _ F' H' m' => ∀ v, SEnv K H0 F' H' m' r.2 σ → RepB K H0 F' H' m' r.1 v → Apart r.2 σ r.1 v → Q v H') : tE K W (f ca) σr H Q := by
  refine ⟨ρr, S, frzM F H (ownPs ms ρ σ), m, (frzM_gr (ms := ms) g s).w, hr, ?_⟩
  have G0 := frzM_gr (ms := ms) g s
  cases e : f ca ρr S with
  | no => unfold ex1G at h; rw [e] at h; exact h
  | exn c d S' => unfold ex1G at h; rw [e] at h; exact Wish.gr G0 h
  | ok b S' =>
    unfold ex1G at h
    rw [e] at h
    intro F' H' m' g' v rv
    have G := G0.trans g'
    have rv0 : RepB K H0 F' H' m' b v := RepB.weak G0 rv
    have hp : ∀ a ∈ ownPs ms ρ σ, ∃ xs, F' a = some (.lst xs) := fun a ha => by
      obtain ⟨xs, e⟩ := frzM_at s a ha
      exact ⟨xs, g'.up _ _ e⟩
    have apart : ∀ (i : Nat) a, ρ[i]? = some (some (a, true)) → b.2 = true → σ[i]? ≠ some (some v) := fun i a hi hb hv => by
      obtain ⟨d, o⟩ := b
      have hb' : o = true := hb
      subst hb'
      obtain ⟨p, xs, ds, e1, e2, z1, _⟩ := rv
      subst e2
      obtain ⟨v', y1, p', xs', ds', e1', e2', _, y2, _⟩ := s.get i _ hi
      rw [hv] at y1; cases y1; cases e2'
      rw [z1] at y2; cases y2
    have P : Post K W σr F0 H0 m0 (.ok (b, after ms ρ b) S') fun r _ F' H' m' => ∀ v, SEnv K H0 F' H' m' r.2 σ → RepB K H0 F' H' m' r.1 v → Apart r.2 σ r.1 v → Q v H' := h
    by_cases hi : immB b = true
    · have ea : after ms ρ b = ρ := by unfold after; rw [hi]; simp
      rw [ea] at P
      refine P _ H' m' (thaw_gr g s g') v (s.kept g') ?_ fun hb i a hi' => apart i a hi' hb
      obtain ⟨d, o⟩ := b
      cases o with
      | false =>
        have hi2 : imm d = true := by
          unfold immB at hi
          split at hi
          · rename_i heq; cases heq
          · rename_i heq; cases heq; exact hi
        exact Rep.thaw hp d v hi2 rv0
      | true =>
        obtain ⟨p, xs, ds, e1, e2, z1, z2, z3, z4, z5, z6⟩ := rv0
        have e1' : d = .lst ds := e1
        subst e1'
        refine ⟨p, xs, ds, rfl, e2, z1, z2, ?_, z4, z5, z6.thaw hp _ _ hi⟩
        unfold thaw
        split
        · rfl
        · exact z3
    · by_cases hm : ms.any (EV.ownAt ρ) = true
      · have ea : after ms ρ b = give ms ρ := by unfold after; rw [hm]; simp [hi]
        rw [ea] at P
        refine P F' H' m' G v (s.given g') rv0 fun hb i a hi' => ?_
        rw [give_get] at hi'
        cases h : ρ[i]? with
        | none => rw [h] at hi'; cases hi'
        | some c =>
          rw [h] at hi'
          cases c with
          | none => cases hi'
          | some c =>
            obtain ⟨d, o⟩ := c
            cases o with
            | false =>
              have e' : some (some (d, false && !ms.contains i)) = some (some (a, true)) := hi'
              cases e'
            | true => exact apart i d h hb
      · have ea : after ms ρ b = ρ := by unfold after; simp [hm]
        rw [ea] at P
        have eps : ownPs ms ρ σ = [] := by
          cases hq : ownPs ms ρ σ with
          | nil => rfl
          | cons p ps =>
            obtain ⟨i, d, h1, h2, _⟩ := mem_ownPs (ms := ms) (ρ := ρ) (σ := σ) (p := p) (by rw [hq]; exact List.mem_cons_self)
            exact absurd (List.any_eq_true.mpr ⟨i, h1, by unfold EV.ownAt; rw [h2]⟩) hm
        have K1 := s.kept g'
        have e2 : thaw F' (ownPs ms ρ σ) = F' := by funext a; unfold thaw; rw [eps]; simp
        rw [e2] at K1
        exact P F' H' m' G v K1 rv0 fun hb i a hi' => apart i a hi' hb
theorem take_env {n : Nat} (s : SEnv K H0 F H m ρ σ) : REnv K (frzM F H (ownPs ms ρ σ)) m (view ms (ρ.take n)) (σ.take n) := by
  have v := s.view (ms := ms)
  refine ⟨by rw [view_len, List.length_take, List.length_take, s.len], fun i d e => ?_⟩
  rw [view_get] at e
  by_cases hi : i < n
  · rw [List.getElem?_take_of_lt hi] at e
    obtain ⟨u, h1, h2⟩ := v.2 i d (by rw [view_get]; exact e)
    exact ⟨u, by rw [List.getElem?_take_of_lt hi]; exact h1, h2⟩
  · rw [List.getElem?_eq_none (by rw [List.length_take]; omega)] at e
    cases e
/-- values that wait to be stored stand behind the slots -/
theorem SEnv.push {b : B} {v : V} (s : SEnv K H0 F H m ρ σ) (rv : RepB K H0 F H m b v) (ap : Apart ρ σ b v) : SEnv K H0 F H m (ρ ++ [some b]) (σ ++ [some v]) := by
  have hl := s.len
  have key : ∀ (j : Nat) (c : B), (ρ ++ [some b])[j]? = some (some c) → (ρ[j]? = some (some c) ∧ (σ ++ [some v])[j]? = σ[j]?) ∨ (j = ρ.length ∧ c = b ∧ (σ ++ [some v])[j]? = some (some v)) := fun j c h => by
    by_cases hj : j < ρ.length
    · rw [List.getElem?_append_left hj] at h
      exact .inl ⟨h, by rw [List.getElem?_append_left (by omega)]⟩
    · have lt := (List.getElem?_eq_some_iff.mp h).1
      have e : j = ρ.length := by simp at lt; omega
      subst e
      rw [List.getElem?_append_right (Nat.le_refl _)] at h
      simp at h
      refine .inr ⟨rfl, h.symm, ?_⟩
      rw [hl, List.getElem?_append_right (Nat.le_refl _)]
      simp
  refine ⟨by simp [hl], fun j c hj => ?_, fun i j a c p hij h1 h2 h3 h4 => ?_⟩
  · rcases key j c hj with ⟨h1, h2⟩ | ⟨rfl, rfl, h2⟩
    · obtain ⟨u, q1, q2⟩ := s.get j c h1
      exact ⟨u, by rw [h2]; exact q1, q2⟩
    · exact ⟨v, h2, rv⟩
  · rcases key i _ h1 with ⟨x1, x2⟩ | ⟨x0, x1, x2⟩
    · rcases key j _ h2 with ⟨y1, y2⟩ | ⟨y0, y1, y2⟩
      · rw [x2] at h3; rw [y2] at h4
        exact s.dis i j a c p hij x1 y1 h3 h4
      · rw [x2] at h3; rw [y2] at h4
        cases h4
        exact ap (by rw [← y1]) i a x1 h3
    · rcases key j _ h2 with ⟨y1, y2⟩ | ⟨y0, y1, y2⟩
      · rw [x2] at h3; rw [y2] at h4
        cases h3
        exact ap (by rw [← x1]) j c y1 h4
      · exact hij (by rw [x0, y0])
end
end EV

namespace EV
open PySem PySem.Spec PyProof.Rows L2
def parE (n : Nat) (ca : Ca) : List (List Nat × SE) → SEn → Cells → R SEn
  | [], ρ, S => .ok ρ S
  | p :: fs, ρ, S => (ex1G p.1 p.2 ca (view p.1 (ρ.take n)) ρ S).bind fun r S => parE n ca fs (r.2 ++ [some r.1]) S
def parSet (n : Nat) (is : List Nat) (ρ : SEn) : SEn := (List.range n).map fun k => match is.findIdx? (· == k) with
  | some j => ρ.getD (n + j) none
  | none => ρ.getD k none
def nodupN : List Nat → Bool
  | [] => true
  | a :: as => !(as.contains a) && nodupN as
def sPar (is : List Nat) (fs : List (List Nat × SE)) : SS := fun ca ρ S => (parE ρ.length ca fs ρ S).bind fun ρ' S => if ρ'.length = ρ.length + is.length then .ok (.nx (parSet ρ.length is ρ')) S else .no
def teL : List TE → TA
  | [] => tNil
  | t :: ts => tCons t (teL ts)
theorem nodupN_ok : ∀ {l : List Nat}, nodupN l = true → l.Nodup
  | [], _ => .nil
  | a :: as, h => by
    simp only [nodupN, Bool.and_eq_true, Bool.not_eq_true'] at h
    refine List.nodup_cons.mpr ⟨fun z => ?_, nodupN_ok h.2⟩
    rw [List.contains_iff_mem.mpr z] at h
    cases h.1
section
variable {K : PySem.W.Frag} {F0 H0 : Hp} {m0 : List Addr} {W : WX}
theorem Post.bind0 {α β : Type} {σ : St} {r : R α} {k : α → Cells → R β} {out : β → Cells → Hp → Hp → List Addr → Prop} (h : Post K W σ F0 H0 m0 (r.bind k) out) : Post K W σ F0 H0 m0 r fun a S1 _ _ _ => Post K W σ F0 H0 m0 (k a S1) out := by
  cases r with
  | ok a S => exact fun _ _ _ _ => h
  | exn c d S => exact h
  | no => exact h
theorem par_run {ca : Ca} {n : Nat} {σ : St} : ∀ {fs : List (List Nat × SE)} {F H : Hp} {m : List Addr} {S : Cells} {ρ : SEn} {σp : St} {Q : List V → Hp → Prop}, Gr K F0 H0 m0 F H m S → SEnv K H0 F H m ρ σp → σp.take n = σ → n ≤ σp.length →
    (Post K W σ F0 H0 m0 (parE n ca fs ρ S) fun ρ' _ F' H' m' => ∀ vs, vs.length = fs.length → SEnv K H0 F' H' m' ρ' (σp ++ vs.map some) → Q vs H') → teL (fs.map fun p => tE K W (p.2 ca)) σ H Q
  | [], F, H, m, S, ρ, σp, Q, g, s, hσ, hn, h => by
    exact h F H m g [] rfl (by simpa using s)
  | p :: fs, F, H, m, S, ρ, σp, Q, g, s, hσ, hn, h => by
    show tE K W (p.2 ca) σ H _
    have hr := take_env (ms := p.1) (n := n) s
    rw [hσ] at hr
    have h0 := Post.bind0 (r := ex1G p.1 p.2 ca (view p.1 (ρ.take n)) ρ S) h
    refine stExG g s hr (Post.mono h0 fun r S1 F1 H1 m1 e1 g1 q1 v s1 rv ap => ?_)
    refine par_run (n := n) (ca := ca) (fs := fs) (ρ := r.2 ++ [some r.1]) (σp := σp ++ [some v]) g1 (s1.push rv ap) ?_ (by rw [List.length_append]; omega) ?_
    · rw [List.take_append_of_le_length hn]; exact hσ
    · refine Post.mono q1 fun ρ' S2 F2 H2 m2 e2 g2 q2 vs hl s2 => q2 (v :: vs) (by simp [hl]) ?_
      rw [List.append_assoc] at s2
      exact s2
end
end EV

namespace EV
open PySem PySem.Spec PyProof.Rows L2
def parIx (n : Nat) (is : List Nat) (k : Nat) : Nat := match is.findIdx? (· == k) with
  | some j => n + j
  | none => k
theorem parIx_in {n : Nat} {is : List Nat} {k : Nat} : (∃ j, is[j]? = some k ∧ parIx n is k = n + j) ∨ (k ∉ is ∧ parIx n is k = k) := by
  unfold parIx
  cases q : is.findIdx? (· == k) with
  | some j =>
    obtain ⟨h1, h2, _⟩ := List.findIdx?_eq_some_iff_getElem.mp q
    refine .inl ⟨j, ?_, rfl⟩
    rw [List.getElem?_eq_getElem h1]
    exact congrArg some (eq_of_beq h2)
  | none =>
    refine .inr ⟨fun hm => ?_, rfl⟩
    have := List.findIdx?_eq_none_iff.mp q k hm
    simp at this
theorem parSet_get {n : Nat} {is : List Nat} {ρ : SEn} {k : Nat} {b : B} (h : (parSet n is ρ)[k]? = some (some b)) : k < n ∧ ρ[parIx n is k]? = some (some b) := by
  unfold parSet at h
  have hk : k < n := by
    have := (List.getElem?_eq_some_iff.mp h).1
    simpa using this
  refine ⟨hk, ?_⟩
  rw [List.getElem?_map, List.getElem?_range hk] at h
  simp only [Option.map_some, Option.some.injEq] at h
  have key : ∀ q : Nat, ρ.getD q none = some b → ρ[q]? = some (some b) := fun q e => by
    rw [List.getD_eq_getElem?_getD] at e
    cases z : ρ[q]? with
    | none => rw [z] at e; cases e
    | some c => rw [z] at e; cases e; rfl
  unfold parIx
  split at h
  · rename_i j e
    first | exact key _ h | (rw [e]; exact key _ h)
  · rename_i e
    first | exact key _ h | (rw [e]; exact key _ h)
section
variable {K : PySem.W.Frag} {H0 F H : Hp} {m : List Addr}
theorem SEnv.par {n : Nat} {is : List Nat} {ρ : SEn} {σ σ' : St} {vs : List V} (s : SEnv K H0 F H m ρ (σ ++ vs.map some)) (hn : σ.length = n) (nd : is.Nodup) (hl : vs.length = is.length) (st : Stored σ σ' is vs) : SEnv K H0 F H m (parSet n is ρ) σ' := by
  obtain ⟨s1, s2, s3⟩ := st
  have at_ : ∀ k, k < n → σ'[k]? = (σ ++ vs.map some)[parIx n is k]? := fun k hk => by
    rcases parIx_in (n := n) (is := is) (k := k) with ⟨j, h1, h2⟩ | ⟨h1, h2⟩
    · have hj : j < vs.length := by rw [hl]; exact (List.getElem?_eq_some_iff.mp h1).1
      rw [h2, List.getElem?_append_right (by omega), hn]
      have : n + j - n = j := by omega
      rw [this, List.getElem?_map, List.getElem?_eq_getElem hj]
      exact s3 j k _ h1 (List.getElem?_eq_getElem hj)
    · rw [h2, List.getElem?_append_left (by omega)]
      exact s2 k h1
  have inj : ∀ i j, i < n → j < n → i ≠ j → parIx n is i ≠ parIx n is j := fun i j hi hj hij e => by
    rcases parIx_in (n := n) (is := is) (k := i) with ⟨a, h1, h2⟩ | ⟨h1, h2⟩
    · rcases parIx_in (n := n) (is := is) (k := j) with ⟨b, h3, h4⟩ | ⟨h3, h4⟩
      · have : a = b := by omega
        subst this
        rw [h1] at h3
        cases h3
        exact hij rfl
      · omega
    · rcases parIx_in (n := n) (is := is) (k := j) with ⟨b, h3, h4⟩ | ⟨h3, h4⟩
      · omega
      · omega
  refine ⟨by unfold parSet; simp [s1, hn], fun k b h => ?_, fun i j a b p hij h1 h2 h3 h4 => ?_⟩
  · obtain ⟨hk, h'⟩ := parSet_get h
    obtain ⟨v, q1, q2⟩ := s.get _ b h'
    exact ⟨v, by rw [at_ k hk]; exact q1, q2⟩
  · obtain ⟨hi, h1'⟩ := parSet_get h1
    obtain ⟨hj, h2'⟩ := parSet_get h2
    rw [at_ i hi] at h3
    rw [at_ j hj] at h4
    exact s.dis _ _ a b p (inj i j hi hj hij) h1' h2' h3 h4
end
section
variable {pg : Pg} {N : List Str} {sc : Scope}
theorem pa_list {X : Cx} {ca : Ca} {lev : Nat} {W : WX} (C : Ctx X sc N pg ca lev W) : ∀ {es : List Expr} {fs : List (List Nat × SE)}, es.all noStar = true → es.length = fs.length → (∀ (i : Nat) e p, es[i]? = some e → fs[i]? = some p → OkE pg N sc e p.2) →
    PA X es (teL (fs.map fun p => tE X.K W (p.2 ca)))
  | [], [], _, _, _ => pa_nil
  | [], _ :: _, _, h, _ => by simp at h
  | _ :: _, [], _, h, _ => by simp at h
  | e :: es, p :: fs, hs, hl, h => by
    simp only [List.all_cons, Bool.and_eq_true] at hs
    exact pa_cons (h 0 e p rfl rfl X ca lev W C) (pa_list C hs.2 (by simpa using hl) fun i e p a b => h (i + 1) e p a b) (starEach_cons hs.1)
def slotsB (N : List Str) (sc : Scope) : List Str → Option (List Nat)
  | [] => some []
  | x :: xs => if locB sc x then (match slot? N x, slotsB N sc xs with
    | some i, some is => some (i :: is)
    | _, _ => none) else none
theorem slotsB_ok {X : Cx} {ca : Ca} {lev : Nat} {E : XK} (C : CtxS X sc N pg ca lev E) : ∀ {xs : List Str} {is : List Nat}, slotsB N sc xs = some is → slotsOk X xs is
  | [], is, h => by cases h; trivial
  | x :: xs, is, h => by
    unfold slotsB at h
    split at h
    · rename_i hl
      split at h
      · rename_i i is' h1 h2
        cases h
        exact ⟨by rw [C.c.names]; exact slot_ok h1, by rw [C.c.sc]; exact locB_ok hl, .inl (C.fn x), slotsB_ok C h2⟩
      · cases h
    · cases h
theorem okPar {ts vs : List Expr} {xs : List Str} {is : List Nat} {fs : List (List Nat × SE)} {kt k2 : Nat} {pt p2 pos : Pos} {o : Option (List Str)} (hk : sc.kind = .function) (ht : tgNames ts = some xs) (hi : slotsB N sc xs = some is) (nd : nodupN is = true) (hz : is.length ≤ 100)
    (hs : vs.all noStar = true) (hl : vs.length = fs.length) (hw : swB sc ts vs = some o) (ho : o = none ∨ o = some xs) (hlx : vs.length = is.length) (h : ∀ (i : Nat) e p, vs[i]? = some e → fs[i]? = some p → OkE pg N sc e p.2) :
    OkS pg N sc (.Assign [.Tuple ts kt pt] (.Tuple vs k2 p2) pos) (sPar is fs) := fun X ca lev E F0 H0 m0 C => by
  have hkx : X.env.scope.kind = .function := by rw [C.c.sc]; exact hk
  have hz' : is.length ≤ sizeLine := by rw [line24]; omega
  refine PS.imp (ps_parN C.c.calm C.c.nd ht (slotsB_ok C hi) (nodupN_ok nd) (pa_list C.c hs hl h) hz' (swB_ok hkx (by rw [C.c.sc]; exact hw)) ho) fun Dn σ H ⟨ρ, S, F, m, g, s, q⟩ => ?_
  have q1 := postS_ex (σ := σ) (r := parE ρ.length ca fs ρ S) q
  refine par_run (n := ρ.length) (σp := σ) g s (by rw [s.len]; exact List.take_length) (by rw [s.len]; exact Nat.le_refl _) (Post.mono q1 fun ρ' S1 F1 H1 m1 e1 g1 q2 ws hw s1 => ?_)
  refine ⟨by rw [hw, ← hl, hlx], fun σ' st => ?_⟩
  split at q2
  · exact q2 σ' F1 H1 m1 g1 (s1.par s.len.symm (nodupN_ok nd) (by rw [hw, ← hl, hlx]) st)
  · exact q2.elim
end
end EV

namespace EV
open PySem PySem.Spec PyProof.Rows L2
/-! ### a, b = e -/
def sAsg (p : Pt) (ms : List Nat) (f : SE) : SS := fun ca ρ S => (ex1 ms f ca ρ S).bind fun r S => match bindS p r.1.1 r.2 with
  | some ρ' => .ok (.nx ρ') S
  | none => .no
def notTup : Expr → Bool
  | .Tuple .. => false
  | _ => true
/-! ### raise: nothing is said -/
def sNo : SS := fun _ _ _ => .no
section
variable {pg : Pg} {N : List Str} {sc : Scope}
theorem okAsg {ts : List Expr} {kt : Nat} {pt pos : Pos} {e : Expr} {p : Pt} {n : Nat} {ms : List Nat} {f : SE} (hg : tgt (locOk N sc) n (.Tuple ts kt pt) = some p) (hn : notComp e = true) (ht : notTup e = true) (h : OkE pg N sc e f) :
    OkS pg N sc (.Assign [.Tuple ts kt pt] e pos) (sAsg p ms f) := fun X ca lev E F0 H0 m0 C => by
  have hsw : swapsWithSole [.Tuple ts kt pt] e pos.line X.env = pure false := by
    show swapsWith e (some (.Tuple ts kt pt)) pos.line X.env = _
    exact notComp_sw hn
  have hst : swappedStores [.Tuple ts kt pt] e X.env = pure none := by cases e <;> first | rfl | cases ht
  refine PS.imp (ps_asg (h X ca lev _ C.c) (stg_ok (H0 := H0) C.c.nd C.c.calm (fun x i h => loc_st C h) n (.Tuple ts kt pt) p hg) hsw hst rfl) fun Dn σ H ⟨ρ, S, F, m, g, s, q⟩ => ?_
  refine stEx g s (Post.mono (postS_ex q) fun r S1 F1 H1 m1 e1 g1 q1 v s1 rv ap => ?_)
  obtain ⟨F2, g2, s2, r2, sb⟩ := freezeS g1 s1 rv ap
  split at q1
  · rename_i ρ' hb
    exact ⟨F2, m1, r.1.1, r.2, ρ', g2.w.sub, r2, s2, hb, fun σ' s' => q1 σ' F2 H1 m1 g2 s'⟩
  · exact q1.elim
theorem ps_any {X : Cx} {st : Stmt} : PS X st fun _ _ _ => False := ⟨fun _ _ _ _ _ _ h => h.elim⟩
theorem okNo {st : Stmt} : OkS pg N sc st sNo := fun X ca lev E F0 H0 m0 C => PS.imp ps_any fun Dn σ H ⟨ρ, S, F, m, g, s, q⟩ => q
end
end EV

namespace EV
open PySem PySem.Spec PyProof.Rows L2
/-! raise C(e) -/
def sRaise (ms : List Nat) (c : Str) (f : SE) : SS := fun ca ρ S => (f ca (view ms ρ) S).bind fun b S => .exn c b.1 S
section
variable {pg : Pg} {N : List Str} {sc : Scope}
theorem okRaise {x : Str} {e : Expr} {p pos pos' : Pos} {ms : List Nat} {f : SE} (hx : pg.excs.contains x = true) (hg : glB sc x = true) (hp : plainName x = true) (hs : noStar e = true) (h : OkE pg N sc e f) : OkS pg N sc (.Raise (some (.Call (.Name x p) [e] [] pos)) none pos') (sRaise ms x f) := fun X ca lev E F0 H0 m0 C => by
  have T := C.c.lib.exc x (List.contains_iff_mem.mp hx)
  refine PS.imp (ps_raise C.c.calm C.c.tk (EVX.pmk_err (C.c.room.rm.mono (Nat.zero_le _)) T (C.c.gl hg) (okCons hs h okNil X ca lev _ C.c) (plain1 hp).1 (starEach_cons hs) rfl)) fun Dn σ H q => ?_
  obtain ⟨ρ, S, F, m, g, s, q⟩ := q
  have G0 := frzM_gr (ms := ms) g s
  refine ⟨view ms ρ, S, frzM F H (ownPs ms ρ σ), m, G0.w, s.view, ?_⟩
  unfold sRaise at q
  show Post _ _ _ _ _ _ ((f ca (view ms ρ) S).bind fun b S => (aNil ca (view ms ρ) S).bind fun ds S => .ok (b.1 :: ds) S) _
  cases e : f ca (view ms ρ) S with
  | no => rw [e] at q; exact q
  | exn c d S' => rw [e] at q; exact Wish.gr (W := fun c d _ H => E c d H) (σ := σ) G0 (show Wish X.K (fun c d _ H => E c d H) [] F0 H0 m0 c d S' from q)
  | ok b S' =>
    rw [e] at q
    intro F' H' m' g' vs rv
    simp only [RepL] at rv
    obtain ⟨y, ys, rfl, r1, rfl⟩ := rv
    have G := G0.trans g'
    refine ⟨y, rfl, fun dx hdx => ?_⟩
    have gl := Gr.lay (o := .xd [(("value" : Str), y)]) g'.w hdx
    exact q dx y F' _ m' (G.trans gl) (G.fresh hdx) (g'.w.newF hdx) (g'.w.newNot hdx) upd_same r1
end
end EV

namespace EV
open PySem PySem.Spec PyProof.Rows L2 LamX
/-! the def that hears: try: back = call() / except LotError as error: caught = error -/
/-- what is wished of an error -/
def wHeard (K : PySem.W.Frag) (CS : Addr) (Q : VK) : XK := fun cls d H => ∃ C : Addr, cls = .ref C ∧ PySem.W.exmOne K cls (.ref CS) = some true ∧ ∀ a, H a = none → ∀ p, upd H a (EVX.exq a C d) p = none → Q (.ref p) (upd (upd H a (EVX.exq a C d)) p (.tup [.ref a, .non]))
def qHeard (Q : VK) : VK := fun v H => ∀ p, H p = none → Q (.ref p) (upd H p (.tup [.non, v]))
theorem heard_sw (v : Bool × Bool) (q : List Pos) : swB (heardScope v) [.Name "_law_caught" (q.getD 0 default), .Name "_law_back" (q.getD 1 default)] [.Constant .none 0 (q.getD 3 default), .Constant .none 0 (q.getD 4 default)] = some none := by
  unfold swB
  split
  · rfl
  · split
    · rfl
    · split
      · rfl
      · split
        · rfl
        · rename_i h
          exact absurd (by simp [foldedForSure]) h
section
variable {Z : Cx} {q : List Pos} {CS f c2 : Addr} {qn : Str} {tl : XK → Hp → VK → Prop}
theorem heard_body {v : Bool × Bool} (hN : Z.N = heardN v) (hsc : Z.env.scope = heardScope v) (hst : Z.stack = Z.env :: Z.outer) (hfr : Z.env.frame = some Z.env.locals) (hex : Z.ex = []) (hcalm : Z.calm = true) (hfn : ∀ x, Z.fn x = true) (hmg : Z.mg "LotError" = some (.ref CS)) (hgl : Gl Z "LotError")
    (act : ∀ (W : WX) (pn : List (Addr × Obj)) (xe : Value → Shared → Prop) (p1 p2 : Pos), Takes (Z.tr pn xe) W → PE (Z.tr pn xe) (.Call (.Name (hAn v) p1) [] [] p2) (fun τ H Q => τ[0]? = some (some (.ref f)) ∧ H c2 = some (CodeO c2 qn) ∧ ∃ E : XK, (∀ cls dd H2, E cls dd H2 → W cls dd τ H2) ∧ tl E H Q)) :
    ∃ t, PSs Z (heardBody v q) t ∧ ∀ H Q, H c2 = some (CodeO c2 qn) → tl (wHeard Z.K CS Q) H (qHeard Q) → t { nx := fun _ H' => Q .non H', rt := Q } (L2.start (heardN v) [.ref f]) H := by
  obtain ⟨b1, b2⟩ := v
  cases b1 <;> cases b2
  · have hnd : Z.N.Nodup := by rw [hN]; decide
    have vis : ∀ x, (heardScope (false, false)).names.lookup x = some .local → Vis Z.env.scope x := fun x h => .inl (by rw [hsc]; exact h)
    have loc : ∀ x, (heardScope (false, false)).names.lookup x = some .local → Loc Z.env.scope x := fun x h => .inl (by rw [hsc]; exact h)
    have n1 : Z.N[1]? = some ("_law_caught" : Str) := by rw [hN]; rfl
    have n2 : Z.N[2]? = some ("_law_back" : Str) := by rw [hN]; rfl
    have n3 : Z.N[3]? = some (hEn (false, false)) := by rw [hN]; rfl
    have s1 : PS Z (hd1 q) (tParN [1, 2] (tCons (tC .non) (tCons (tC .non) tNil))) := by
      refine ps_parN hcalm hnd (xs := ["_law_caught", "_law_back"]) rfl ⟨n1, loc _ rfl, .inl (hfn _), n2, loc _ rfl, .inl (hfn _), trivial⟩ (by decide) (pa_cons pe_non (pa_cons pe_non pa_nil)) (by decide) (swB_ok (o := none) (by rw [hsc]; rfl) (by rw [hsc]; exact heard_sw (false, false) q)) (.inl rfl)
    have s3 : PS Z (hd3 q) (tRet (tTup (tCons (tVar 1) (tCons (tVar 2) tNil)))) := ps_ret (pe_tup (pa_cons (pe_var n1 (vis _ rfl)) (pa_cons (pe_var n2 (vis _ rfl)) pa_nil)))
    let tb : WX → TS := fun W D τ H => τ[0]? = some (some (.ref f)) ∧ H c2 = some (CodeO c2 qn) ∧ ∃ E : XK, (∀ cls dd H2, E cls dd H2 → W cls dd τ H2) ∧ tl E H (fun v H1 => D.nx (τ.set 2 (some v)) H1)
    let ts : Addr → TS := fun _ => tAsg (tVar 3) (gName 1)
    have s2 : PS Z (hd2 (false, false) q) (fun D τ H => tb (EVX.wKeep Z.K (.ref CS) 3 ts D) D τ H) := by
      refine EVX.ps_try_keep (tb := tb) (ts := ts) hst hfr hnd n3 (by show Z.env.scope.names.lookup _ = _; rw [hsc]; rfl) hex ⟨hgl, by decide, .inl hmg⟩ (fun W pn xe tk _ => ?_) (fun a oe pn => ?_)
      · refine ⟨fun pins s τ H D I h => ?_⟩
        obtain ⟨h1, h2, E, h3, h4⟩ := h
        have as := pss_one (ps_set (X := Z.tr pn xe) (pos := q.getD 10 default) (pos' := q.getD 7 default) hnd n2 (loc _ rfl) (act W pn xe (q.getD 8 default) (q.getD 9 default) tk) rfl (.inl (hfn _)))
        exact as.run pins s τ H D I ⟨h1, h2, E, h3, h4⟩
      · exact pss_one (ps_set (X := Z.suite a ((a, oe) :: pn)) (pos := q.getD 14 default) (pos' := q.getD 12 default) hnd n1 (loc _ rfl) (pe_var n3 (vis _ rfl)) rfl (.inl (hfn _)))
    refine ⟨_, pss_cons s1 (pss_cons s2 (pss_one s3)), fun H Q hc h => ?_⟩
    refine ⟨rfl, fun τ st => ?_⟩
    obtain ⟨st1, st2, st3⟩ := st
    have z0 : τ[0]? = some (some (.ref f)) := st2 0 (by decide)
    have z1 : τ[1]? = some (some .non) := st3 0 1 .non rfl rfl
    have z2 : τ[2]? = some (some .non) := st3 1 2 .non rfl rfl
    have len : τ.length = 4 := st1
    match τ, len, z0, z1, z2 with
    | [_, _, _, w], _, z0, z1, z2 =>
      cases z0
      cases z1
      cases z2
      refine ⟨rfl, hc, wHeard Z.K CS Q, fun cls dd H2 e => ?_, ?_⟩
      · obtain ⟨C, e1, e2, e3⟩ := e
        refine ⟨C, e1, e2, fun a ha => ⟨.ref a, rfl, fun ha2 => ?_⟩⟩
        exact ⟨.ref a, rfl, .non, rfl, (show 2 ≤ sizeLine by decide), fun p hp => e3 a ha p hp⟩
      · have e : qHeard Q = fun v H1 => (tRet (tTup (tCons (tVar 1) (tCons (tVar 2) tNil)))) { nx := fun _ H' => Q .non H', rt := Q } [some (V.ref f), some .non, some v, w] H1 := by
          funext v H1
          apply propext
          constructor
          · intro k
            exact ⟨.non, rfl, v, rfl, (show 2 ≤ sizeLine by decide), k⟩
          · rintro ⟨x1, y1, x2, y2, _, k⟩
            cases y1
            cases y2
            exact k
        rw [e] at h
        exact h
  · have hnd : Z.N.Nodup := by rw [hN]; decide
    have vis : ∀ x, (heardScope (false, true)).names.lookup x = some .local → Vis Z.env.scope x := fun x h => .inl (by rw [hsc]; exact h)
    have loc : ∀ x, (heardScope (false, true)).names.lookup x = some .local → Loc Z.env.scope x := fun x h => .inl (by rw [hsc]; exact h)
    have n1 : Z.N[1]? = some ("_law_caught" : Str) := by rw [hN]; rfl
    have n2 : Z.N[2]? = some ("_law_back" : Str) := by rw [hN]; rfl
    have n3 : Z.N[3]? = some (hEn (false, true)) := by rw [hN]; rfl
    have s1 : PS Z (hd1 q) (tParN [1, 2] (tCons (tC .non) (tCons (tC .non) tNil))) := by
      refine ps_parN hcalm hnd (xs := ["_law_caught", "_law_back"]) rfl ⟨n1, loc _ rfl, .inl (hfn _), n2, loc _ rfl, .inl (hfn _), trivial⟩ (by decide) (pa_cons pe_non (pa_cons pe_non pa_nil)) (by decide) (swB_ok (o := none) (by rw [hsc]; rfl) (by rw [hsc]; exact heard_sw (false, true) q)) (.inl rfl)
    have s3 : PS Z (hd3 q) (tRet (tTup (tCons (tVar 1) (tCons (tVar 2) tNil)))) := ps_ret (pe_tup (pa_cons (pe_var n1 (vis _ rfl)) (pa_cons (pe_var n2 (vis _ rfl)) pa_nil)))
    let tb : WX → TS := fun W D τ H => τ[0]? = some (some (.ref f)) ∧ H c2 = some (CodeO c2 qn) ∧ ∃ E : XK, (∀ cls dd H2, E cls dd H2 → W cls dd τ H2) ∧ tl E H (fun v H1 => D.nx (τ.set 2 (some v)) H1)
    let ts : Addr → TS := fun _ => tAsg (tVar 3) (gName 1)
    have s2 : PS Z (hd2 (false, true) q) (fun D τ H => tb (EVX.wKeep Z.K (.ref CS) 3 ts D) D τ H) := by
      refine EVX.ps_try_keep (tb := tb) (ts := ts) hst hfr hnd n3 (by show Z.env.scope.names.lookup _ = _; rw [hsc]; rfl) hex ⟨hgl, by decide, .inl hmg⟩ (fun W pn xe tk _ => ?_) (fun a oe pn => ?_)
      · refine ⟨fun pins s τ H D I h => ?_⟩
        obtain ⟨h1, h2, E, h3, h4⟩ := h
        have as := pss_one (ps_set (X := Z.tr pn xe) (pos := q.getD 10 default) (pos' := q.getD 7 default) hnd n2 (loc _ rfl) (act W pn xe (q.getD 8 default) (q.getD 9 default) tk) rfl (.inl (hfn _)))
        exact as.run pins s τ H D I ⟨h1, h2, E, h3, h4⟩
      · exact pss_one (ps_set (X := Z.suite a ((a, oe) :: pn)) (pos := q.getD 14 default) (pos' := q.getD 12 default) hnd n1 (loc _ rfl) (pe_var n3 (vis _ rfl)) rfl (.inl (hfn _)))
    refine ⟨_, pss_cons s1 (pss_cons s2 (pss_one s3)), fun H Q hc h => ?_⟩
    refine ⟨rfl, fun τ st => ?_⟩
    obtain ⟨st1, st2, st3⟩ := st
    have z0 : τ[0]? = some (some (.ref f)) := st2 0 (by decide)
    have z1 : τ[1]? = some (some .non) := st3 0 1 .non rfl rfl
    have z2 : τ[2]? = some (some .non) := st3 1 2 .non rfl rfl
    have len : τ.length = 4 := st1
    match τ, len, z0, z1, z2 with
    | [_, _, _, w], _, z0, z1, z2 =>
      cases z0
      cases z1
      cases z2
      refine ⟨rfl, hc, wHeard Z.K CS Q, fun cls dd H2 e => ?_, ?_⟩
      · obtain ⟨C, e1, e2, e3⟩ := e
        refine ⟨C, e1, e2, fun a ha => ⟨.ref a, rfl, fun ha2 => ?_⟩⟩
        exact ⟨.ref a, rfl, .non, rfl, (show 2 ≤ sizeLine by decide), fun p hp => e3 a ha p hp⟩
      · have e : qHeard Q = fun v H1 => (tRet (tTup (tCons (tVar 1) (tCons (tVar 2) tNil)))) { nx := fun _ H' => Q .non H', rt := Q } [some (V.ref f), some .non, some v, w] H1 := by
          funext v H1
          apply propext
          constructor
          · intro k
            exact ⟨.non, rfl, v, rfl, (show 2 ≤ sizeLine by decide), k⟩
          · rintro ⟨x1, y1, x2, y2, _, k⟩
            cases y1
            cases y2
            exact k
        rw [e] at h
        exact h
  · have hnd : Z.N.Nodup := by rw [hN]; decide
    have vis : ∀ x, (heardScope (true, false)).names.lookup x = some .local → Vis Z.env.scope x := fun x h => .inl (by rw [hsc]; exact h)
    have loc : ∀ x, (heardScope (true, false)).names.lookup x = some .local → Loc Z.env.scope x := fun x h => .inl (by rw [hsc]; exact h)
    have n1 : Z.N[1]? = some ("_law_caught" : Str) := by rw [hN]; rfl
    have n2 : Z.N[2]? = some ("_law_back" : Str) := by rw [hN]; rfl
    have n3 : Z.N[3]? = some (hEn (true, false)) := by rw [hN]; rfl
    have s1 : PS Z (hd1 q) (tParN [1, 2] (tCons (tC .non) (tCons (tC .non) tNil))) := by
      refine ps_parN hcalm hnd (xs := ["_law_caught", "_law_back"]) rfl ⟨n1, loc _ rfl, .inl (hfn _), n2, loc _ rfl, .inl (hfn _), trivial⟩ (by decide) (pa_cons pe_non (pa_cons pe_non pa_nil)) (by decide) (swB_ok (o := none) (by rw [hsc]; rfl) (by rw [hsc]; exact heard_sw (true, false) q)) (.inl rfl)
    have s3 : PS Z (hd3 q) (tRet (tTup (tCons (tVar 1) (tCons (tVar 2) tNil)))) := ps_ret (pe_tup (pa_cons (pe_var n1 (vis _ rfl)) (pa_cons (pe_var n2 (vis _ rfl)) pa_nil)))
    let tb : WX → TS := fun W D τ H => τ[0]? = some (some (.ref f)) ∧ H c2 = some (CodeO c2 qn) ∧ ∃ E : XK, (∀ cls dd H2, E cls dd H2 → W cls dd τ H2) ∧ tl E H (fun v H1 => D.nx (τ.set 2 (some v)) H1)
    let ts : Addr → TS := fun _ => tAsg (tVar 3) (gName 1)
    have s2 : PS Z (hd2 (true, false) q) (fun D τ H => tb (EVX.wKeep Z.K (.ref CS) 3 ts D) D τ H) := by
      refine EVX.ps_try_keep (tb := tb) (ts := ts) hst hfr hnd n3 (by show Z.env.scope.names.lookup _ = _; rw [hsc]; rfl) hex ⟨hgl, by decide, .inl hmg⟩ (fun W pn xe tk _ => ?_) (fun a oe pn => ?_)
      · refine ⟨fun pins s τ H D I h => ?_⟩
        obtain ⟨h1, h2, E, h3, h4⟩ := h
        have as := pss_one (ps_set (X := Z.tr pn xe) (pos := q.getD 10 default) (pos' := q.getD 7 default) hnd n2 (loc _ rfl) (act W pn xe (q.getD 8 default) (q.getD 9 default) tk) rfl (.inl (hfn _)))
        exact as.run pins s τ H D I ⟨h1, h2, E, h3, h4⟩
      · exact pss_one (ps_set (X := Z.suite a ((a, oe) :: pn)) (pos := q.getD 14 default) (pos' := q.getD 12 default) hnd n1 (loc _ rfl) (pe_var n3 (vis _ rfl)) rfl (.inl (hfn _)))
    refine ⟨_, pss_cons s1 (pss_cons s2 (pss_one s3)), fun H Q hc h => ?_⟩
    refine ⟨rfl, fun τ st => ?_⟩
    obtain ⟨st1, st2, st3⟩ := st
    have z0 : τ[0]? = some (some (.ref f)) := st2 0 (by decide)
    have z1 : τ[1]? = some (some .non) := st3 0 1 .non rfl rfl
    have z2 : τ[2]? = some (some .non) := st3 1 2 .non rfl rfl
    have len : τ.length = 4 := st1
    match τ, len, z0, z1, z2 with
    | [_, _, _, w], _, z0, z1, z2 =>
      cases z0
      cases z1
      cases z2
      refine ⟨rfl, hc, wHeard Z.K CS Q, fun cls dd H2 e => ?_, ?_⟩
      · obtain ⟨C, e1, e2, e3⟩ := e
        refine ⟨C, e1, e2, fun a ha => ⟨.ref a, rfl, fun ha2 => ?_⟩⟩
        exact ⟨.ref a, rfl, .non, rfl, (show 2 ≤ sizeLine by decide), fun p hp => e3 a ha p hp⟩
      · have e : qHeard Q = fun v H1 => (tRet (tTup (tCons (tVar 1) (tCons (tVar 2) tNil)))) { nx := fun _ H' => Q .non H', rt := Q } [some (V.ref f), some .non, some v, w] H1 := by
          funext v H1
          apply propext
          constructor
          · intro k
            exact ⟨.non, rfl, v, rfl, (show 2 ≤ sizeLine by decide), k⟩
          · rintro ⟨x1, y1, x2, y2, _, k⟩
            cases y1
            cases y2
            exact k
        rw [e] at h
        exact h
  · have hnd : Z.N.Nodup := by rw [hN]; decide
    have vis : ∀ x, (heardScope (true, true)).names.lookup x = some .local → Vis Z.env.scope x := fun x h => .inl (by rw [hsc]; exact h)
    have loc : ∀ x, (heardScope (true, true)).names.lookup x = some .local → Loc Z.env.scope x := fun x h => .inl (by rw [hsc]; exact h)
    have n1 : Z.N[1]? = some ("_law_caught" : Str) := by rw [hN]; rfl
    have n2 : Z.N[2]? = some ("_law_back" : Str) := by rw [hN]; rfl
    have n3 : Z.N[3]? = some (hEn (true, true)) := by rw [hN]; rfl
    have s1 : PS Z (hd1 q) (tParN [1, 2] (tCons (tC .non) (tCons (tC .non) tNil))) := by
      refine ps_parN hcalm hnd (xs := ["_law_caught", "_law_back"]) rfl ⟨n1, loc _ rfl, .inl (hfn _), n2, loc _ rfl, .inl (hfn _), trivial⟩ (by decide) (pa_cons pe_non (pa_cons pe_non pa_nil)) (by decide) (swB_ok (o := none) (by rw [hsc]; rfl) (by rw [hsc]; exact heard_sw (true, true) q)) (.inl rfl)
    have s3 : PS Z (hd3 q) (tRet (tTup (tCons (tVar 1) (tCons (tVar 2) tNil)))) := ps_ret (pe_tup (pa_cons (pe_var n1 (vis _ rfl)) (pa_cons (pe_var n2 (vis _ rfl)) pa_nil)))
    let tb : WX → TS := fun W D τ H => τ[0]? = some (some (.ref f)) ∧ H c2 = some (CodeO c2 qn) ∧ ∃ E : XK, (∀ cls dd H2, E cls dd H2 → W cls dd τ H2) ∧ tl E H (fun v H1 => D.nx (τ.set 2 (some v)) H1)
    let ts : Addr → TS := fun _ => tAsg (tVar 3) (gName 1)
    have s2 : PS Z (hd2 (true, true) q) (fun D τ H => tb (EVX.wKeep Z.K (.ref CS) 3 ts D) D τ H) := by
      refine EVX.ps_try_keep (tb := tb) (ts := ts) hst hfr hnd n3 (by show Z.env.scope.names.lookup _ = _; rw [hsc]; rfl) hex ⟨hgl, by decide, .inl hmg⟩ (fun W pn xe tk _ => ?_) (fun a oe pn => ?_)
      · refine ⟨fun pins s τ H D I h => ?_⟩
        obtain ⟨h1, h2, E, h3, h4⟩ := h
        have as := pss_one (ps_set (X := Z.tr pn xe) (pos := q.getD 10 default) (pos' := q.getD 7 default) hnd n2 (loc _ rfl) (act W pn xe (q.getD 8 default) (q.getD 9 default) tk) rfl (.inl (hfn _)))
        exact as.run pins s τ H D I ⟨h1, h2, E, h3, h4⟩
      · exact pss_one (ps_set (X := Z.suite a ((a, oe) :: pn)) (pos := q.getD 14 default) (pos' := q.getD 12 default) hnd n1 (loc _ rfl) (pe_var n3 (vis _ rfl)) rfl (.inl (hfn _)))
    refine ⟨_, pss_cons s1 (pss_cons s2 (pss_one s3)), fun H Q hc h => ?_⟩
    refine ⟨rfl, fun τ st => ?_⟩
    obtain ⟨st1, st2, st3⟩ := st
    have z0 : τ[0]? = some (some (.ref f)) := st2 0 (by decide)
    have z1 : τ[1]? = some (some .non) := st3 0 1 .non rfl rfl
    have z2 : τ[2]? = some (some .non) := st3 1 2 .non rfl rfl
    have len : τ.length = 4 := st1
    match τ, len, z0, z1, z2 with
    | [_, _, _, w], _, z0, z1, z2 =>
      cases z0
      cases z1
      cases z2
      refine ⟨rfl, hc, wHeard Z.K CS Q, fun cls dd H2 e => ?_, ?_⟩
      · obtain ⟨C, e1, e2, e3⟩ := e
        refine ⟨C, e1, e2, fun a ha => ⟨.ref a, rfl, fun ha2 => ?_⟩⟩
        exact ⟨.ref a, rfl, .non, rfl, (show 2 ≤ sizeLine by decide), fun p hp => e3 a ha p hp⟩
      · have e : qHeard Q = fun v H1 => (tRet (tTup (tCons (tVar 1) (tCons (tVar 2) tNil)))) { nx := fun _ H' => Q .non H', rt := Q } [some (V.ref f), some .non, some v, w] H1 := by
          funext v H1
          apply propext
          constructor
          · intro k
            exact ⟨.non, rfl, v, rfl, (show 2 ≤ sizeLine by decide), k⟩
          · rintro ⟨x1, y1, x2, y2, _, k⟩
            cases y1
            cases y2
            exact k
        rw [e] at h
        exact h
end
end EV

namespace EV
open PySem PySem.Spec PyProof.Rows L2 LamX
theorem heard_fs (v : Bool × Bool) : FnScope (heardN v) [hAn v] (heardScope v) := by
  obtain ⟨b1, b2⟩ := v
  cases b1 <;> cases b2 <;> exact ⟨rfl, rfl, rfl, by decide, rfl, fun x hx => .inl (by rw [List.mem_singleton.mp hx]; rfl), by decide⟩
/-- _law_heard(lambda: e) -/
def tHeard (K : PySem.W.Frag) (CS P : Addr) (qn : Str) (t : XK → TE) : TE := fun σ H Q => ∃ ps : Array Value, H P = some (.tbl ps) ∧ TriplesOk ps.toList ∧ (∀ (p2 : Pos) (cv : Value), codeAmong p2 ps.toList = some cv → ∃ c, cv = .ref c ∧ H c = some (CodeO c qn)) ∧
  ∀ c2 H1, EVX.Laid H P ps qn c2 H1 → H1 c2 = some (CodeO c2 qn) → t (wHeard K CS Q) σ H1 (qHeard Q)
section
variable {X : Cx}
theorem pe_heard {v : Bool × Bool} {g c P CS : Addr} {k : Nat} {pgs : Arguments} {q : List Pos} {dV kV doc pm cdv ct oc : Value} {an od : Option Addr} {osl : Array (Option Value)} {params : Arguments} {body : Expr} {scope : Scope} {t : XK → TE} {p lpos pos : Pos}
    (hg : Gl X "_law_heard") (hm : X.mg "_law_heard" = some (.ref g)) (hk : PySem.W.keepIn X.K (.ref g) = true) (lk : X.K.lookup g = some ⟨oc, od, .func (PySem.W.fnOf "_law_heard" "_law_heard" pgs (heardBody v q) (heardScope v) dV kV doc pm an cdv ct), osl⟩)
    (hcg : PySem.W.codeIn X.K cdv "_law_heard" = true) (hb : L2.Binds X.K (PySem.W.fnOf "_law_heard" "_law_heard" pgs (heardBody v q) (heardScope v) dV kV doc pm an cdv ct) [hAn v] []) (hle : X.mg "LotError" = some (.ref CS))
    (TB : TabB X.base X.mg c P) (hcode : X.env.code = .ref c) (hr : Room (k + 2) X.A) (gd : X.A.guards = some []) (L : LamS X.env.scope scope) (nodef : defaultsOf params X.env = ([], []))
    (noArg : ∀ (q : Str) (cl : List (Str × Addr)) (pm cv ctv : Value), bindArgs (PySem.W.kla_fn "<lambda>" q params body scope cl pm cv ctv) ⟨[], []⟩ = pure [])
    (does : ∀ (E : XK) (f c2 : Addr) (A : Around) (outer : List Env) (s : Shared) (H : Hp), Room k (A.deeper (lamEnv X scope s.heap.objs.size f c2)) → (A.deeper (lamEnv X scope s.heap.objs.size f c2)).guards = some [] → PE (lamCx X A outer s H E scope f c2) body (t E)) :
    PE X (.Call (.Name "_law_heard" p) [.Lambda params body scope lpos] [] pos) (tHeard X.K CS P (X.env.qual ++ "<lambda>") t) := by
  refine ⟨fun pins s σ H Q I h => ?_⟩
  obtain ⟨ps, tab, tri, codes, h⟩ := h
  refine wpAny_Call_Name_kw (ld_glob I hg hm ?_ (by decide))
  refine PySem.W.callWith_K (h₀ := X.base) I.ok.mod.kin hk ?_ (by rfl) (by rfl)
  show wpAny _ _ (spliced ((false, eval (.Lambda params body scope lpos) X.env) :: backTo pos (starEach [] X.env))) _ _ s
  refine Calls.spliced_cons (EVX.lam_laid I TB hcode tab tri codes nodef (L.has I.ok) fun f c2 pm2 ctv H1 s2 J laid lam nf fr code => ?_)
  refine Calls.spliced_nil ⟨J.kIn, ?_⟩
  have rc : codeAny (model X.prog X.w) X.A (.call (.ref g) ⟨[.ref f], []⟩) (CR C8.CX0 X.stack X.prog X.w H1 s2 Q C8.E0) s2 := by
    refine run_ofS (N := heardN v) (ps := [hAn v]) (us := [.ref f]) (vs := [.ref f]) lk hcg (heard_fs v) hr J.env0 (hb s2 [.ref f] J.kIn rfl) (.cons rfl .nil) rfl fun rm => ?_
    obtain ⟨t2, b1, b2⟩ := heard_body (Z := cxOf C8.CX0 X.prog X.w X.K X.mg X.base (heardN v) "_law_heard" (heardScope v) g cdv X.A X.stack s2 H1 C8.E0) (q := q) (CS := CS) (f := f) (c2 := c2) (qn := X.env.qual ++ "<lambda>") (tl := fun E H2 Q2 => t E σ H2 Q2) rfl rfl rfl rfl rfl rfl (fun _ => rfl) hle (by obtain ⟨b1, b2⟩ := v; cases b1 <;> cases b2 <;> rfl)
      (fun W pn xe p1 p2 tk => EVX.pe_does (i := 0) (k := k) (tb := t) J L lam nf fr (noArg _ _ _ _ _) tk rm gd (fun E A outer s3 H3 r3 g3 => does E f c2 A outer s3 H3 r3 g3) rfl (by obtain ⟨b1, b2⟩ := v; cases b1 <;> cases b2 <;> exact .inl rfl) (by obtain ⟨b1, b2⟩ := v; cases b1 <;> cases b2 <;> decide) (by obtain ⟨b1, b2⟩ := v; cases b1 <;> cases b2 <;> decide))
    exact ⟨t2, b1, b2 H1 Q code (h c2 H1 laid code)⟩
  refine wpAny_call (codeAny_mono rc fun r s3 hq => ?_)
  cases r with
  | error e => exact (show False from hq).elim
  | ok fl =>
    cases fl with
    | ret u => exact J.after hq
    | next => exact False.elim hq
    | brk => exact False.elim hq
    | cont => exact False.elim hq
end
end EV

namespace EV
open PySem PySem.Spec PyProof.Rows L2 LamX
/-! _law_heard(lambda: e) -/
def isTb (n : Str) : Cel → Bool
  | .tb k q => k == n && q == lamQ n
  | _ => false
def cHeard (exs : List Str) (n : Str) (f : SE) : SE := fun ca ρ S => match S.any (isTb n) with
  | false => .no
  | true => (match f ca ρ S with
    | .ok b S' => .ok (.tup [.non, b.1], false) S'
    | .exn c d S' => if exs.contains c then .ok (.tup [.exc c d, .non], false) S' else .no
    | .no => .no)
theorem isTb_eq {n : Str} {o : Cel} (h : isTb n o = true) : o = .tb n (lamQ n) := by
  cases o with
  | tb k q =>
    simp only [isTb, Bool.and_eq_true] at h
    rw [eq_of_beq h.1, eq_of_beq h.2]
  | _ => cases h
section
variable {K : PySem.W.Frag} {F H : Hp} {m : List Addr} {S : Cells}
theorem tb_at {n : Str} (w : Wd K F H m S) (h : S.any (isTb n) = true) : ∃ i : Nat, m[i]? = some (tbP K n) ∧ S[i]? = some (.tb n (lamQ n)) ∧ F (tbP K n) = none ∧ CelIs K F H m (tbP K n) (.tb n (lamQ n)) := by
  obtain ⟨o, ho, e⟩ := List.any_eq_true.mp h
  have := isTb_eq e
  subst this
  obtain ⟨i, hi⟩ := List.mem_iff_getElem?.mp ho
  have hlt : i < m.length := by rw [w.len]; exact (List.getElem?_eq_some_iff.mp hi).1
  obtain ⟨h1, h2⟩ := w.cel i m[i] _ (List.getElem?_eq_getElem hlt) hi
  have ea : m[i] = tbP K n := h2.1
  exact ⟨i, by rw [List.getElem?_eq_getElem hlt, ea], hi, ea ▸ h1, ea ▸ h2⟩
/-- the table with one more code object -/
theorem laid_gr {n : Str} {ps : Array Value} {c2 : Addr} {H1 : Hp} {i : Nat} (w : Wd K F H m S) (hm : m[i]? = some (tbP K n)) (hS : S[i]? = some (.tb n (lamQ n))) (hF : F (tbP K n) = none)
    (tab : H (tbP K n) = some (.tbl ps)) (tri : TriplesOk ps.toList) (codes : ∀ (p2 : Pos) (cv : Value), codeAmong p2 ps.toList = some cv → ∃ c, cv = .ref c ∧ F c = some (CodeO c (lamQ n))) (laid : EVX.Laid H (tbP K n) ps (lamQ n) c2 H1) :
    ∃ F1, Gr K F H m F1 H1 m S := by
  rcases laid with ⟨rfl, _⟩ | ⟨pos, hc, hne, rfl⟩
  · exact ⟨F, Gr.refl w⟩
  · have hFc : F c2 = none := w.newF hc
    have s1 : Sub F (upd F c2 (CodeO c2 (lamQ n))) := sub_upd hFc
    have keep : ∀ a, a ≠ tbP K n → a ≠ c2 → upd (upd H (tbP K n) (.tbl (ps ++ #[rawInt pos.line, rawInt pos.col, .ref c2]))) c2 (CodeO c2 (lamQ n)) a = H a := fun a h1 h2 => by rw [upd_ne h2, upd_ne h1]
    have wd : Wd K (upd F c2 (CodeO c2 (lamQ n))) (upd (upd H (tbP K n) (.tbl (ps ++ #[rawInt pos.line, rawInt pos.col, .ref c2]))) c2 (CodeO c2 (lamQ n))) m S := by
      refine ⟨fun a o e => ?_, w.len, w.nd, fun j a o h1 h2 => ?_, w.im⟩
      · by_cases ha : a = c2
        · subst ha; rw [upd_same] at e ⊢; exact e
        · rw [upd_ne ha] at e
          have ha2 : a ≠ tbP K n := fun z => by rw [z, hF] at e; cases e
          rw [keep a ha2 ha]
          exact w.sub a o e
      · obtain ⟨h3, h4⟩ := w.cel j a o h1 h2
        obtain ⟨u, hu⟩ := h4.there
        have ha : a ≠ c2 := ne_of_none hu hc
        refine ⟨by rw [upd_ne ha]; exact h3, ?_⟩
        by_cases ha2 : a = tbP K n
        · subst ha2
          have hij : j = i := by
            have l1 := (List.getElem?_eq_some_iff.mp h1)
            have l2 := (List.getElem?_eq_some_iff.mp hm)
            obtain ⟨lj, ej⟩ := l1
            obtain ⟨li, ei⟩ := l2
            exact (List.getElem_inj w.nd).mp (ej.trans ei.symm)
          subst hij
          rw [hS] at h2
          cases h2
          have eL : (ps ++ #[rawInt pos.line, rawInt pos.col, .ref c2]).toList = ps.toList ++ [rawInt pos.line, rawInt pos.col, .ref c2] := by simp
          refine ⟨rfl, _, by rw [upd_ne (Ne.symm hne), upd_same], by rw [eL]; exact PySem.TriplesOk_snoc _ _ _ _ tri, fun p2 cv hcv => ?_⟩
          rw [eL] at hcv
          rcases among_app _ tri hcv with z | z
          · obtain ⟨c0, e1, e2⟩ := codes p2 cv z
            exact ⟨c0, e1, s1 _ _ e2⟩
          · exact ⟨c2, z, upd_same⟩
        · exact h4.keep s1 Ext.refl (keep a ha2 ha)
    refine ⟨_, wd, s1, Ext.refl, fun a o h1 h2 h3 => ?_⟩
    have ha : a ≠ c2 := ne_of_none h1 hc
    have ha2 : a ≠ tbP K n := fun z => h3 (z ▸ List.mem_of_getElem? hm)
    exact ⟨by rw [keep a ha2 ha]; exact h1, by rw [upd_ne ha]; exact h2, h3⟩
/-- an object that is new and nobody's is frozen -/
theorem Gr.frzNew {F1 H1 : Hp} {m1 : List Addr} {S1 : Cells} {p : Addr} {o : HO} (g : Gr K F H m F1 H1 m1 S1) (h0 : H p = none) (hp : H1 p = some o) (hm : p ∉ m1) (hF : F1 p = none) : Gr K F H m (upd F1 p o) H1 m1 S1 :=
  ⟨g.w.frz hp hm hF, g.up.trans (sub_upd hF), g.ext, fun a u q1 q2 q3 => by
    obtain ⟨z1, z2, z3⟩ := g.frm a u q1 q2 q3
    exact ⟨z1, by rw [upd_ne (ne_of_none q1 h0)]; exact z2, z3⟩⟩
end
def noPar (p : Arguments) : Bool := p.posonlyargs.isEmpty && p.args.isEmpty && p.vararg.isNone && p.kwonlyargs.isEmpty && p.kw_defaults.isEmpty && p.kwarg.isNone && p.defaults.isEmpty
theorem noPar_eq {p : Arguments} (h : noPar p = true) : p = { posonlyargs := [], args := [], vararg := none, kwonlyargs := [], kw_defaults := [], kwarg := none, defaults := [] } := by
  obtain ⟨a, b, c, d, e, f, g⟩ := p
  simp only [noPar, Bool.and_eq_true, List.isEmpty_iff, Option.isNone_iff_eq_none] at h
  obtain ⟨⟨⟨⟨⟨⟨h1, h2⟩, h3⟩, h4⟩, h5⟩, h6⟩, h7⟩ := h
  subst h1 h2 h3 h4 h5 h6 h7
  rfl
def Pg.off (pg : Pg) : Pg := { pg with me := none }
theorem PgOk.off {P : Program} {w : World} {K : PySem.W.Frag} {mg : Str → Option Value} {base : Heap} {pg : Pg} {ca : Ca} {lev : Nat} (h : PgOk P w K mg base pg ca lev) : PgOk P w K mg base pg.off ca lev :=
  ⟨h.fn, h.con, h.blt, h.exc, h.sub, h.ve, h.sys, h.lev2, h.cls, h.tb, h.hrd⟩
section
variable {pg : Pg} {N : List Str} {sc : Scope}
theorem okHeard {n : Str} {f : SE} {params : Arguments} {body : Expr} {scope : Scope} {p lpos pos : Pos} (hme : pg.me = some n) (hg : glB sc "_law_heard" = true) (hp : noPar params = true) (hs : lamSB sc scope = true) (hb : OkE pg.off N scope body f) :
    OkE pg N sc (.Call (.Name "_law_heard" p) [.Lambda params body scope lpos] [] pos) (cHeard pg.excs n f) := fun X ca lev W C => by
  obtain ⟨hn, hq, hcode⟩ := C.mker n hme
  have rm2 : Rm (lev + 2) X.A := by
    have := C.room2
    unfold Pg.ex at this
    rw [hme] at this
    exact this
  have hne : pg.mks ≠ [] := fun z => by rw [z] at hn; cases hn
  have HF := C.lib.hrd hne
  obtain ⟨g, pgs, q, dV, kV, doc, pm, cdv, ct, oc, an, od, osl, e1, e2, e3, e4, e5⟩ := HF.ex
  have TB := C.lib.tb n hn
  have ep := noPar_eq hp
  have lam : PE X (.Call (.Name "_law_heard" p) [.Lambda params body scope lpos] [] pos) (tHeard X.K (He.ga X.K "LotError") (tbP X.K n) (X.env.qual ++ "<lambda>") fun E => tE X.K (fun c d _ H => E c d H) (f ca)) := by
    refine pe_heard (k := lev) (C.gl hg) e1 e2 e3 e4 e5 HF.le TB hcode rm2.rm rm2.gd (by rw [C.sc]; exact lamS_by hs) (by rw [ep]; rfl) (fun _ _ _ _ _ => by rw [ep]; rfl) (fun E f' c2 A outer s H r3 g3 => ?_)
    exact hb (lamCx X A outer s H E scope f' c2) ca lev _ { sc := rfl, names := C.names, nd := C.nd, calm := rfl, room2 := ⟨r3, g3⟩, lib := C.lib.off, tk := takes_of rfl rfl rfl rfl, mker := fun n z => by cases z }
  refine PE.imp lam fun σ H Q h => ?_
  obtain ⟨ρ, S, F, m, w, r, po⟩ := h
  unfold cHeard at po
  split at po
  · exact po.elim
  · rename_i hT
    obtain ⟨i, hm, hS, hF, h0, ps, tab, tri, codes⟩ := tb_at w hT
    refine ⟨ps, tab, tri, fun p2 cv hc => ?_, fun c2 H1 laid hc2 => ?_⟩
    · obtain ⟨c, z1, z2⟩ := codes p2 cv hc
      exact ⟨c, z1, by rw [hq]; exact w.sub _ _ z2⟩
    rw [hq] at laid
    obtain ⟨F1, g1⟩ := laid_gr w hm hS hF tab tri codes laid
    refine ⟨ρ, S, F1, m, g1.w, r.gr g1, ?_⟩
    cases e : f ca ρ S with
    | no => rw [e] at po; exact po.elim
    | ok b S' =>
      rw [e] at po
      intro F' H' m' g' v rv p hp
      have gg := g1.trans g'
      obtain ⟨F2, g2, s2, r2⟩ := freeze g' rv
      have gl := Gr.layF (o := .tup [.non, v]) g2.w hp
      refine po _ _ _ (g1.trans (g2.trans gl)) _ ?_
      show Rep _ _ _ (.tup [.non, b.1]) _
      simp only [Rep]
      refine ⟨p, [.non, v], rfl, SqT.of upd_same, (show 2 ≤ sizeLine by decide), .cons (by simp only [Rep]) (.cons (r2.gr gl) .nil)⟩
    | exn c d S' =>
      rw [e] at po
      dsimp only at po
      split at po
      · rename_i hc
        have T := C.lib.exc c (List.contains_iff_mem.mp hc)
        intro dx x F' H' m' g' d0 d1 d2 d3 d4
        refine ⟨He.ga X.K c, rfl, T.exm, fun a ha p hp => ?_⟩
        have gA := (g1.trans g').frzNew (g1.fresh d0) d3 d2 d1
        have gB := Gr.layF (o := EVX.exq a (He.ga X.K c) (some dx)) gA.w ha
        have gC := Gr.layF (o := .tup [.ref a, .non]) gB.w hp
        refine po _ _ _ ((gA.trans gB).trans gC) _ ?_
        show Rep _ _ _ (.tup [.exc c d, .non]) _
        simp only [Rep]
        have sA := sub_upd (o := HO.xd [(("value" : Str), x)]) d1
        refine ⟨p, [.ref a, .non], rfl, SqT.of upd_same, (show 2 ≤ sizeLine by decide), .cons ?_ (.cons (by simp only [Rep]) .nil)⟩
        simp only [Rep]
        exact ⟨a, dx, x, rfl, gC.up _ _ upd_same, gC.up _ _ (gB.up _ _ upd_same), ((d4.up sA Ext.refl).gr gB).gr gC⟩
      · exact po.elim
end
end EV

namespace EV
open PySem PySem.Spec PyProof.Rows L2
/-! ### (*a, b, ..) -/
def seqD : D → Option (List D)
  | .tup ds => some ds
  | .lst ds => some ds
  | _ => none
def aStar (f : SE) (a : SA) : SA := fun ca ρ S => (f ca ρ S).bind fun b S => match seqD b.1 with
  | some es => (a ca ρ S).bind fun ds S => .ok (es ++ ds) S
  | none => .no
/-! ### isinstance with a built-in type -/
def tyD : D → Option String
  | .non => some "NoneType"
  | .bl _ => some "bool"
  | .int _ => some "int"
  | .str _ => some "str"
  | .tup _ => some "tuple"
  | .lst _ => some "list"
  | .dic _ _ => some "dict"
  | _ => none
def tyB (a b : String) : Bool := a == b || (a == "bool" && b == "int")
def tyNames : List String := ["int", "bool", "str", "tuple", "list", "dict"]
def gIsT (T : String) (_ : Cells) (d : D) : Option B := match tyD d with
  | some a => bB (tyB a T)
  | none => none
theorem kit_all : (["NoneType", "bool", "int", "str", "tuple", "list", "dict"].all fun a => tyNames.all fun b => kitB a b == some (tyB a b)) = true := by decide +kernel
theorem tyD_in {d : D} {a : String} (h : tyD d = some a) : a ∈ ["NoneType", "bool", "int", "str", "tuple", "list", "dict"] := by
  cases d <;> simp only [tyD] at h <;> cases h <;> simp
theorem kit_tyB {K : PySem.W.Frag} {d : D} {a T : String} (h : tyD d = some a) (hT : T ∈ tyNames) : PySem.W.kitOne K (.type a) (.type T) = some (tyB a T) := by
  have h1 := List.all_eq_true.mp kit_all a (tyD_in h)
  have h2 := List.all_eq_true.mp h1 T hT
  exact kit_ty (eq_of_beq h2)
theorem tyX_of {K : PySem.W.Frag} {F H : Hp} {m : List Addr} {d : D} {x : V} {a : String} (s : Sub F H) (r : Rep K F m d x) (h : tyD d = some a) : TyX K H x (.type a) := by
  cases d <;> simp only [tyD] at h <;> cases h <;> simp only [Rep] at r
  · subst r; exact .base .non
  · subst r; exact .base (.bl _)
  · subst r; exact .base (.int _)
  · obtain ⟨rfl, _⟩ := r; exact .base (.str _)
  · obtain ⟨p, xs, rfl, q, _⟩ := r
    rcases SqT.sub s q with (q | ⟨o, q⟩) | ⟨o, its, n, q, hc, _⟩
    · exact .base (.tup q)
    · exact .fTuple q
    · exact .kTuple q hc
  · obtain ⟨p, xs, rfl, q, _⟩ := r
    exact .base (.lst (s _ _ q))
  · obtain ⟨p, kvs, rfl, q, _⟩ := r
    exact .base (.dK (s _ _ q))
section
variable {pg : Pg} {N : List Str} {sc : Scope}
theorem okStar {e : Expr} {p : Pos} {es : List Expr} {f : SE} {a : SA} (h : OkE pg N sc e f) (ha : OkA pg N sc es a) : OkA pg N sc (.Starred e p :: es) (aStar f a) := fun X ca lev W C => by
  refine PA.imp (StX.pa_star (h X ca lev W C) (ha X ca lev W C) rfl) fun σ H Q ⟨ρ, S, F, m, w, r, q⟩ => ?_
  refine tE.ofF w r (Post.mono (Post.bind q) fun b S1 F1 H1 m1 e1 g1 q1 v rv => ?_)
  split at q1
  · rename_i ds hd
    obtain ⟨d, o⟩ := b
    have key : ∃ a xs, v = .ref a ∧ (SqT X.K H1 a xs ∨ SqL X.K H1 a xs) ∧ RepL X.K F1 m1 ds xs := by
      cases d <;> simp only [seqD] at hd <;> cases hd <;> simp only [Rep] at rv
      · obtain ⟨a, xs, rfl, h1, _, h3⟩ := rv
        exact ⟨a, xs, rfl, .inl (SqT.sub g1.w.sub h1), h3⟩
      · obtain ⟨a, xs, rfl, h1, _, h3⟩ := rv
        exact ⟨a, xs, rfl, .inr (SqL.of (g1.w.sub _ _ h1)), h3⟩
    obtain ⟨a, xs, rfl, h1, h3⟩ := key
    refine ⟨a, xs, rfl, h1, ρ, S1, F1, m1, g1.w, r.gr g1, Post.mono (Post.bind q1) fun es S2 F2 H2 m2 e2 g2 q2 us rus => ?_⟩
    exact q2 F2 H2 m2 (Gr.refl g2.w) (xs ++ us) ((h3.gr g2).append rus)
  · exact q1.elim
theorem okIsT {c : Str} {T : String} {e : Expr} {p p2 pos : Pos} {f : SE} (hT : T ∈ tyNames) (hv : bootBuiltins c = some (.type T)) (hg : glB sc "isinstance" = true) (hb : pg.blts.contains "isinstance" = true) (hgc : glB sc c = true) (hbc : pg.blts.contains c = true) (hp : plainName c = true) (hs : noStar e = true) (h : OkE pg N sc e f) :
    OkE pg N sc (.Call (.Name "isinstance" p) [e, .Name c p2] [] pos) (cOp1 (gIsT T) f) := fun X ca lev W C => by
  refine PE.imp (pe_callB call_isi (C.gl hg) (C.lib.blt _ (List.contains_iff_mem.mp hb)) (by boot_by_name) (pa_cons (h X ca lev W C) (pa_cons (pe_bltn (v := .ty T) (C.gl hgc) (C.lib.blt _ (List.contains_iff_mem.mp hbc)) hv rfl (plain1 hp).2.2 (plain1 hp).1) pa_nil rfl) (starEach_cons hs)) (by decide) (by decide) (starEach_cons hs) rfl) fun σ H Q q => ?_
  refine (op1_pre q).monoQ fun x H1 q1 => ?_
  obtain ⟨F, m, S, d, b, w, r, e, o⟩ := q1
  unfold gIsT at e
  split at e
  · rename_i a ha
    cases e
    exact ⟨x, .ty T, .type a, .type T, tyB a T, rfl, .ty T, tyX_of w.sub r ha, kit_tyB ha hT, o.val w (rep_bl _)⟩
  · cases e
end
end EV

namespace EV
open PySem PySem.Spec PyProof.Rows L2
section
variable {pg : Pg} {N : List Str} {sc : Scope}
theorem okIZip {elts : List Expr} {kk : Nat} {tpos : Pos} {a b : Expr} {p pos : Pos} {f g : SE} (hg : glB sc "zip" = true) (hb : ("zip" : Str) ∈ pg.blts) (hs : noStar a = true) (hs2 : noStar b = true) (h : OkE pg N sc a f) (h2 : OkE pg N sc b g) :
    OkI pg N sc (.Tuple elts kk tpos) (.Call (.Name "zip" p) [a, b] [] pos) (iZip f g) := fun X ca lev W C => by
  refine PI.imp (RZ.pi_zipA (C.gl hg) (C.lib.blt _ hb) (okCons hs h (okCons hs2 h2 okNil) X ca lev W C) (by rw [starEach_cons hs]) (noStar_any (by simp [hs2]))) fun σ H R ⟨ρ, S, F, m, w, r, q⟩ => ?_
  refine ⟨ρ, S, F, m, w, r, ?_⟩
  have q1 := Post.bind q
  show Post _ _ _ _ _ _ ((f ca ρ S).bind fun b S => ((aCons g aNil ca ρ S)).bind fun ds S => .ok (b.1 :: ds) S) _
  cases e1 : f ca ρ S with
  | no => rw [e1] at q1; exact q1
  | exn c d S1 => rw [e1] at q1; exact q1
  | ok b S1 =>
    unfold iZip at q
    rw [e1] at q
    have q2 : Post X.K W σ F H m ((g ca ρ S1).bind fun b2 S => match b.1, b2.1 with
      | .lst ds, .lst es => .ok (zipD ds es) S
      | .tup ds, .tup es => .ok (zipD ds es) S
      | _, _ => .no) _ := q
    show Post _ _ _ _ _ _ (((g ca ρ S1).bind fun c S => ((aNil ca ρ S)).bind fun ds S => .ok (c.1 :: ds) S).bind fun ds S => .ok (b.1 :: ds) S) _
    have q3 := Post.bind q2
    cases e2 : g ca ρ S1 with
    | no => rw [e2] at q3; exact q3
    | exn c d S2 => rw [e2] at q3; exact q3
    | ok c S2 =>
      rw [e2] at q3
      intro F1 H1 m1 g1 vs rv
      obtain ⟨x, y, rfl, rx, ry⟩ := rv.two'
      have q4 := q3 F1 H1 m1 g1
      obtain ⟨d, o1⟩ := b
      obtain ⟨e, o2⟩ := c
      cases d with
      | lst ds =>
        cases e with
        | lst es =>
          simp only [Rep] at rx ry
          obtain ⟨p1, xs, rfl, h1, h2, h3⟩ := rx
          obtain ⟨p2, ys, rfl, k1, k2, k3⟩ := ry
          refine ⟨p1, p2, xs, ys, rfl, .inl ⟨SqL.of (g1.w.sub _ _ h1), SqL.of (g1.w.sub _ _ k1), q4 F1 H1 m1 (Gr.refl g1.w) _ (isIt_zipL (fun F2 H2 m2 S2 G => ⟨lst_stays h1 F2 H2 m2 S2 G, lst_stays k1 F2 H2 m2 S2 G⟩) h2 h3 k3)⟩⟩
        | _ => exact q4.elim
      | tup ds =>
        cases e with
        | tup es =>
          simp only [Rep] at rx ry
          obtain ⟨p1, xs, rfl, h1, h2, h3⟩ := rx
          obtain ⟨p2, ys, rfl, k1, k2, k3⟩ := ry
          exact ⟨p1, p2, xs, ys, rfl, .inr ⟨SqT.sub g1.w.sub h1, SqT.sub g1.w.sub k1, q4 F1 H1 m1 (Gr.refl g1.w) _ (isIt_zipT h1 k1 h2 h3 k3)⟩⟩
        | _ => exact q4.elim
      | _ => cases e <;> exact q4.elim
end
end EV

namespace EVX
open PySem PySem.W PySem.Calls PyProof.Rows PySem.Spec
/-- enumerate(v), v anything that begins -/
theorem enum1_new {v : Value} {o : Obj} {P : Heap → Prop} (B : Begins v o P) :
    Meets (Builtin.«enumerate.__new__» ⟨[.type "enumerate", v], []⟩) (fun _ R s => P s.heap ∧
      R (.ok (.ret (.ref (s.heap.push o).objs.size))) { s with heap := (s.heap.push o).push { cls := .type "enumerate", data := .fields #[.none, .bool false, .ref s.heap.objs.size, rawInt 0, .none, .none] } }) :=
  .of_wp fun pr wo A R s z => by
    obtain ⟨hp, gs, dr, tk, os⟩ := s
    obtain ⟨z1, z⟩ := z
    have sub := sub_enumerate
    have go : ∀ {A2 : Around} {E : Value → Shared → Prop} {Q : Value → Shared → Prop}, Q (.ref hp.objs.size) ⟨hp.push o, gs, dr, tk, os⟩ → wpAny (model pr wo) A2 (pyIter v) Q E ⟨hp, gs, dr, tk, os⟩ :=
      fun q => B.iter pr wo _ _ ⟨hp, gs, dr, tk, os⟩ _ z1 q
    wp_walk using go
    refine wpAny_stack_any fun stk => wpAny_pure ?_
    split
    · rename_i cc _ _ _ _ _
      cases hcc : (cc == Value.type "enumerate")
      · wp_walk using go
        exact ⟨_, rfl, z⟩
      · wp_walk using go
        exact ⟨_, rfl, z⟩
    · wp_walk using go
      exact ⟨_, rfl, z⟩
section
variable {prog : Program} {w : World} {A : Around} {E : Value → Shared → Prop} {s : Shared}
theorem enum1_call {v : Value} {o : Obj} {P : Heap → Prop} {Q : Value → Shared → Prop} (B : Begins v o P) (z1 : P s.heap)
    (k : ∀ h', IsEnum h' (s.heap.objs.size + 1) s.heap.objs.size 0 .none → h'.get? s.heap.objs.size = some o → (∀ b u, s.heap.get? b = some u → h'.get? b = some u) → Q (.ref (s.heap.objs.size + 1)) { s with heap := h' }) :
    wpAny (model prog w) A (call (.type "enumerate") [v]) Q E s := by
  refine callType_new F.called_enumerate (by decide) (F.typeCall_enumerate_1 _) (F.newCall_enumerate_1 _) (fun obj => F.args_object_init_2 obj _) F.entry_enumerate_new (enum1_new B) ⟨z1, ?_⟩
  have zs : (s.heap.push o).objs.size = s.heap.objs.size + 1 := Heap.size_push ..
  show _ ∧ _
  rw [zs]
  have en : IsEnum ((s.heap.push o).push { cls := .type "enumerate", data := .fields #[.none, .bool false, .ref s.heap.objs.size, rawInt 0, .none, .none] }) (s.heap.objs.size + 1) s.heap.objs.size 0 .none := by
    have t := Heap.get?_push_size (s.heap.push o) (o := { cls := .type "enumerate", data := .fields #[.none, .bool false, .ref s.heap.objs.size, rawInt 0, .none, .none] }) rfl
    rw [zs] at t
    exact t
  exact ⟨⟨_, en, rfl⟩, k _ en (Heap.get?_push_of_some _ (Heap.get?_push_size _ B.free)) fun b u x => Heap.get?_push_of_some _ (Heap.get?_push_of_some _ x)⟩
end
end EVX

namespace EV
open PySem PySem.Spec PyProof.Rows L2
/-- the tuple at a, each item in a new pair -/
def IteT (K : PySem.W.Frag) (a : Addr) : It :=
  ⟨fun i H => ∃ (xs : List V) (x : V), SqT K H a xs ∧ xs[i]? = some x, fun i H v H' => ∃ T x, v = .ref T ∧ H T = none ∧ H' = upd H T (.tup [.int (i : Nat), x]) ∧ ∀ xs, SqT K H a xs → xs[i]? = some x, fun i H => ∃ xs : List V, SqT K H a xs ∧ xs.length ≤ i⟩
def EnT (e it a : Addr) (i : Nat) (h : Heap) : Prop := (∃ old, IsEnum h e it ((i : Nat) : Int) old) ∧ h.IsTupleIter it a i ∧ e ≠ it
theorem turn_enT {P : Program} {w : World} {K : PySem.W.Frag} {elts : List Expr} {kk : Nat} {tpos : Pos} (a e it : Addr) : Turn P w K (.Tuple elts kk tpos) (IteT K a) [e, it] e (EnT e it a) where
  mem := by simp
  obj := fun i h st b hb => by
    obtain ⟨⟨old, z⟩, ⟨o, ho, hc, hd⟩, _⟩ := st
    rcases (show b = e ∨ b = it by simpa using hb) with rfl | rfl
    · exact ⟨_, z, fun v q => nomatch q⟩
    · exact ⟨o, ho, fun v q => by rw [hd] at q; cases q⟩
  keep := fun i h h' st k => by
    obtain ⟨⟨old, z⟩, ⟨o, ho, hr⟩, n⟩ := st
    exact ⟨⟨old, k e (by simp) _ z⟩, ⟨o, k it (by simp) o ho, hr⟩, n⟩
  item := by
    intro X hP hw hK hc i pins s σ H E I hf st hg
    subst hP hw hK
    obtain ⟨⟨old, z⟩, hit, hne⟩ := st
    obtain ⟨xs, x, hq, hx⟩ := hg
    obtain ⟨its, rv, tp, hz⟩ := I.tuple hq
    obtain ⟨u, hu, ru⟩ := rv.get hx
    have hel : e < s.heap.objs.size := Heap.lt_size z
    have hil : it < s.heap.objs.size := by obtain ⟨_, q, _⟩ := hit; exact Heap.lt_size q
    have ai : a ≠ it := fun q => by
      obtain ⟨o1, h1, c1, _⟩ := tp
      obtain ⟨o2, h2, c2, _⟩ := hit
      rw [q, h2] at h1; cases h1; rw [c1] at c2; injection c2 with q2; exact absurd q2 (by decide)
    have ae : a ≠ e := fun q => by
      obtain ⟨o1, h1, c1, _⟩ := tp
      rw [q, z] at h1; cases h1; injection c1 with q2; exact absurd q2 (by decide)
    have hlt : i < its.toArray.size := by
      rw [List.size_toArray]; exact (List.getElem?_eq_some_iff.mp hu).1
    refine wpAny_pyNext_enum_itemD (Draws.tuple (by exact I.ok.hd hc) it a ai its.toArray) z ⟨hit, tp⟩ hlt hne (by simp [hne, Ne.symm ae]) fun x' h' tk hx' ho hst' hT hsz hk => ?_
    have ex : x' = u := by
      have : its.toArray[i]? = some x' := hx'
      rw [List.getElem?_toArray, hu] at this
      exact (Option.some.inj this).symm
    subst ex
    refine ⟨_, rfl, wpAny_letOwnedTupleGo_enum (s := { s with heap := h', toks := tk + 1 }) ho fun h2 he2 sb => ?_⟩
    have hT2 : h2.get? s.heap.objs.size = some { cls := .type "tuple", data := .seq #[.int i tk, x'] } := (sb.2 _ (Nat.ne_of_gt hel)).trans hT
    have nw : ObjOk X.prog X.w (upd H s.heap.objs.size (.tup [.int (i : Nat), x])) h2 s.heap.objs.size (.tup [.int (i : Nat), x]) :=
      ⟨show 2 ≤ sizeLine by decide, [.int i tk, x'], .cons ⟨_, rfl⟩ (.cons ru .nil), ⟨_, hT2, rfl, _, rfl⟩⟩
    have I1 : Inv X pins σ (upd H s.heap.objs.size (.tup [.int (i : Nat), x])) { s with heap := h2, toks := tk + 1 } :=
      I.turnedNew (ch := [e, it]) (fun b ob hb q => (sb.2 b (fun y => hb (by simp [y]))).trans (hk b ob (fun y => hb (by simp [y])) (fun y => hb (by simp [y])) q)) hf (Nat.le_refl _) nw
    refine ⟨.ref s.heap.objs.size, _, I1, rfl, ⟨_, x, rfl, I.hok.fresh (Nat.le_refl _), rfl, fun ys hy => by rw [I.tuple_inj hy hq]; exact hx⟩, ⟨⟨x', ?_⟩, ?_, hne⟩, fun b hb => ?_⟩
    · have e1 : ((i + 1 : Nat) : Int) = (i : Int) + 1 := by omega
      rw [e1]; exact he2
    · obtain ⟨o, q1, q2⟩ := hst'.1
      exact ⟨o, (sb.2 it (Ne.symm hne)).trans q1, q2⟩
    · have lt : b < s.heap.objs.size := by
        rcases (show b = e ∨ b = it by simpa using hb) with y | y
        · rw [y]; exact hel
        · rw [y]; exact hil
      rw [upd_ne (Nat.ne_of_lt lt)]
      exact (hf b hb).1
  done := by
    intro X hP hw hK hc i pins s σ H E I hf st hg
    subst hP hw hK
    obtain ⟨⟨old, z⟩, hit, hne⟩ := st
    obtain ⟨xs, hq, hx⟩ := hg
    obtain ⟨its, rv, tp, hz⟩ := I.tuple hq
    obtain ⟨f0, f1, f2, f3, f4, f5⟩ := hf it (by simp)
    have hl := rv.length
    have ai : a ≠ it := fun q => by
      obtain ⟨o1, h1, c1, _⟩ := tp
      obtain ⟨o2, h2, c2, _⟩ := hit
      rw [q, h2] at h1; cases h1; rw [c1] at c2; injection c2 with q2; exact absurd q2 (by decide)
    have Dn : Draws X.prog X.w X.A.in1 it [it, a] i (fun _ _ => True) (fun j h => j = i ∧ h.IsTupleIter it a i ∧ h.IsTuple a its.toArray) := {
      live := fun _ _ q => let ⟨o, ho, _⟩ := q.2.1; ⟨o, ho⟩
      frame := fun _ _ _ q k => ⟨q.1, q.2.1.at fun o y => k it (by simp) o y, q.2.2.at fun o y => k a (by simp) o y⟩
      item := fun j s Q E lt q _ => by
        have e1 := q.1
        omega
      done := fun s Q E q k => wpAny_nextOf_tuple_end (I.ok.hd hc) q.2.1 q.2.2 (by simp; omega) k }
    exact wpAny_pyNext_enum_endD Dn z ⟨rfl, hit, tp⟩ fun h' eb => ⟨rfl, I.turned (t' := s.toks) (fun b o hb q => eb b o hb q) f0 f1 f3 f4 f5⟩
  self := fun A i s Q E st h => by
    obtain ⟨⟨_, z⟩, _⟩ := st
    exact wpAny_pyIter_enum z h
def iEnumT (K : PySem.W.Frag) (ta : TA) : TI := fun σ H R => ta σ H fun vs H1 => ∃ a xs, vs = [.ref a] ∧ SqT K H1 a xs ∧ R (IteT K a) H1
theorem pi_enT {X : Cx} {e : Expr} {ta : TA} {p pos tpos : Pos} {elts : List Expr} {kk : Nat} (hg : Gl X "enumerate") (hm : X.mg "enumerate" = none) (ha : PA X [e] ta) (hs : starEach [e] X.env = [(false, eval e X.env)]) :
    PI X (.Tuple elts kk tpos) (.Call (.Name "enumerate" p) [e] [] pos) (iEnumT X.K ta) := by
  refine ⟨fun pins s σ H R I h => ?_⟩
  refine Call_ (ld_blt I hg hm boot_enumerate (PyProof.Rows.callWith_type1 (thn (ha.run pos pins s σ H _ I h) fun us s1 ⟨vs, H1, I1, r1, q1⟩ => ?_) hs rfl))
  obtain ⟨a, xs, ex, hq, q⟩ := q1
  subst ex
  obtain ⟨u, rfl, ru⟩ := vals1 r1
  cases ru
  obtain ⟨its, rv, tp, hz⟩ := I1.tuple hq
  refine EVX.enum1_call (PySem.begins_tuple a its.toArray) tp fun h' he hit hk => wpAny_pyIter_enum he ?_
  have I2 : Inv X pins σ H1 { s1 with heap := h' } := I1.kept (t' := s1.toks) hk
  refine ⟨s1.heap.objs.size + 1, [s1.heap.objs.size + 1, s1.heap.objs.size], _, _, H1, rfl, I2, turn_enT a (s1.heap.objs.size + 1) s1.heap.objs.size, ⟨⟨.none, he⟩, ⟨_, hit, rfl, rfl⟩, Nat.succ_ne_self _⟩, fun b hb => ?_, q⟩
  have hle : s1.heap.objs.size ≤ b := by
    rcases (show b = s1.heap.objs.size + 1 ∨ b = s1.heap.objs.size by simpa using hb) with y | y
    · rw [y]; exact Nat.le_add_right _ _
    · rw [y]; exact Nat.le_refl _
  exact I1.fpOk hle (I1.hok.fresh hle)
section
variable {K : PySem.W.Frag} {F : Hp} {m : List Addr} {ds : List D}
theorem isIt_enT {p : Addr} {xs : List V} (hp : SqT K F p xs) (hz : xs.length ≤ sizeLine) (r : RepL K F m ds xs) : IsIt K (IteT K p) F m (enumD ds) := by
  have hl := r.length
  have hle : (enumD ds).length = ds.length := by unfold enumD; simp
  refine ⟨by rw [hle]; omega, fun F2 H2 m2 S2 g => ?_⟩
  have hq := SqT.sub g.w.sub (SqT.sub g.up hp)
  refine ⟨fun i hi => ⟨xs, xs[i]'(by omega), hq, by simp⟩, ⟨xs, hq, by omega⟩, fun i x H3 d hd hy => ?_⟩
  obtain ⟨T, x', rfl, hT, rfl, h⟩ := hy
  obtain ⟨d', h1, rfl⟩ := enumD_get hd
  obtain ⟨z, z1, z2⟩ := r.get h1
  have e1 := h xs hq
  rw [z1] at e1; cases e1
  exact rep_pair g.w hT (rep_int _) (z2.lt g)
end
def iEnuA (f : SE) : SI := fun ca ρ S => (f ca ρ S).bind fun b S => match b.1 with
  | .lst ds => .ok (enumD ds) S
  | .tup ds => .ok (enumD ds) S
  | _ => .no
section
variable {pg : Pg} {N : List Str} {sc : Scope}
theorem okIEnuA {elts : List Expr} {kk : Nat} {tpos : Pos} {a : Expr} {p pos : Pos} {f : SE} (hg : glB sc "enumerate" = true) (hb : ("enumerate" : Str) ∈ pg.blts) (hs : noStar a = true) (h : OkE pg N sc a f) :
    OkI pg N sc (.Tuple elts kk tpos) (.Call (.Name "enumerate" p) [a] [] pos) (iEnuA f) := fun X ca lev W C => by
  refine PI.imp (PI.or (pi_enum (C.gl hg) (C.lib.blt _ hb) (okCons hs h okNil X ca lev W C) (starEach_cons hs)) (pi_enT (C.gl hg) (C.lib.blt _ hb) (okCons hs h okNil X ca lev W C) (starEach_cons hs))) fun σ H R ⟨ρ, S, F, m, w, r, q⟩ => ?_
  have q1 := Post.bind q
  have go : ∀ Q : List V → Hp → Prop, Post X.K W σ F H m (f ca ρ S) (fun b _ F' H' m' => ∀ v, Rep X.K F' m' b.1 v → Q [v] H') → tA X.K W (aCons f aNil ca) σ H Q := fun Q z => by
    refine ⟨ρ, S, F, m, w, r, ?_⟩
    unfold aCons
    cases e1 : f ca ρ S with
    | no => rw [e1] at z; exact z
    | exn c d S1 => rw [e1] at z; exact z
    | ok b S1 =>
      rw [e1] at z
      intro F1 H1 m1 g1 vs rv
      obtain ⟨x, rfl, rx⟩ := rv.one'
      exact z F1 H1 m1 g1 x rx
  cases e1 : f ca ρ S with
  | no => rw [e1] at q1; exact q1.elim
  | exn c d S1 =>
    refine .inl (go _ ?_)
    rw [e1] at q1 ⊢
    exact q1
  | ok b S1 =>
    rw [e1] at q1
    obtain ⟨d, own⟩ := b
    cases d with
    | lst ds =>
      refine .inl (go _ ?_)
      rw [e1]
      intro F1 H1 m1 g1 v rx
      have q2 := q1 F1 H1 m1 g1
      simp only [Rep] at rx
      obtain ⟨p, xs, rfl, h1, h2, h3⟩ := rx
      exact ⟨p, xs, rfl, SqL.of (g1.w.sub _ _ h1), q2 F1 H1 m1 (Gr.refl g1.w) _ (isIt_enum (lst_stays h1) h2 h3)⟩
    | tup ds =>
      refine .inr (go _ ?_)
      rw [e1]
      intro F1 H1 m1 g1 v rx
      have q2 := q1 F1 H1 m1 g1
      simp only [Rep] at rx
      obtain ⟨p, xs, rfl, h1, h2, h3⟩ := rx
      exact ⟨p, xs, rfl, SqT.sub g1.w.sub h1, q2 F1 H1 m1 (Gr.refl g1.w) _ (isIt_enT h1 h2 h3)⟩
    | _ =>
      unfold iEnuA at q
      rw [e1] at q
      exact q.elim
end
end EV

namespace EV
open PySem PySem.Spec PyProof.Rows L2
/-! ### A.append(B.pop(e)) -/
def popI (i : Int) : Bool := decide (-(2 ^ 63) ≤ i) && decide (i < 2 ^ 63)
def sAppPop (ka kb : Nat) (ms : List Nat) (f : SE) : SS := fun ca ρ S => match ρ[ka]?, ρ[kb]? with
  | some (some (.lst _, true)), some (some (.lst _, true)) => (ex1 ms f ca ρ S).bind fun r S => match r.2[ka]?, r.2[kb]?, r.1.1 with
    | some (some (.lst as, true)), some (some (.lst bs, true)), .int i => (match ixN bs.length i with
      | some j => (match bs[j]? with
        | some d => if decide (as.length < 16777216) && popI i && ka != kb then .ok (.nx ((r.2.set kb (some (.lst (bs.eraseIdx j), true))).set ka (some (.lst (as ++ [d]), true)))) S else .no
        | none => .no)
      | none => .no)
    | _, _, _ => .no
  | _, _ => .no
section
variable {pg : Pg} {N : List Str} {sc : Scope}
theorem okAppPop {x y : Str} {ka kb : Nat} {e : Expr} {ms : List Nat} {f : SE} {np np2 apos apos2 cpos cpos2 spos : Pos} (ha : slot? N x = some ka) (hb : slot? N y = some kb) (hv : visB sc x = true) (hp : plainName x = true) (hv2 : visB sc y = true) (hp2 : plainName y = true)
    (hl : (apos.endLine == cpos.line) = true) (hl2 : (apos2.endLine == cpos2.line) = true) (hs : noStar e = true) (h : OkE pg N sc e f) :
    OkS pg N sc (.Expr (.Call (.Attribute (.Name x np) "append" apos) [.Call (.Attribute (.Name y np2) "pop" apos2) [e] [] cpos2] [] cpos) spos) (sAppPop ka kb ms f) := fun X ca lev E F0 H0 m0 C => by
  have hall : [e].all noStar = true := by simp [hs]
  have PX : PE X (.Name x np) (tVar ka) := pe_var (by rw [C.c.names]; exact slot_ok ha) (by rw [C.c.sc]; exact visB_ok hv) (plain1 hp).1 (plain1 hp).2.1
  have PY : PE X (.Name y np2) (tVar kb) := pe_var (by rw [C.c.names]; exact slot_ok hb) (by rw [C.c.sc]; exact visB_ok hv2) (plain1 hp2).1 (plain1 hp2).2.1
  have PP := pe_bm (cpos := cpos2) PySem.F.plainAttrs_list PySem.F.slot_list_pop PySem.F.type_list_pop (mt_popAt (X := X)) PY (pa_cons (h X ca lev _ C.c) pa_nil (starEach_cons hs)) (abase rfl) (few_ok hall (by simp)) hl2 (starEach_cons hs) rfl
  refine PS.imp (ps_expr (pe_bm PySem.F.plainAttrs_list PySem.F.slot_list_append PySem.F.type_list_append mt_append PX (pa_cons PP pa_nil rfl) (abase rfl) (few_ok rfl (by simp)) hl rfl rfl) rfl) fun Dn σ H ⟨ρ, S, F, m, g, s, q⟩ => ?_
  unfold sAppPop at q
  split at q
  · rename_i a0 b0 h0 k0
    obtain ⟨pa, xa, hpa, _, hpa2, _⟩ := s.own h0
    obtain ⟨pb, xb, hpb, _, hpb2, _⟩ := s.own k0
    refine ⟨.ref pa, hpa, .inl ⟨rfl, _, SqL.of hpa2⟩, .ref pb, hpb, .inl ⟨rfl, _, SqL.of hpb2⟩, ?_⟩
    refine stEx g s (Post.mono (postS_ex q) fun r S1 F1 H1 m1 e1 g1 q1 v s1 rv ap => ?_)
    split at q1
    · rename_i as bs i ha1 hb1 hi1
      split at q1
      · rename_i j hj
        split at q1
        · rename_i d hd
          split at q1
          · rename_i hc
            simp only [Bool.and_eq_true, decide_eq_true_eq, popI, bne_iff_ne] at hc
            obtain ⟨F2, g2, s2, r2, sb⟩ := freezeS g1 s1 rv ap
            rw [hi1] at r2
            simp only [Rep] at r2
            subst r2
            obtain ⟨p1, x1, y1, y2, y3, y4, y5, y6, y7⟩ := s2.own hb1
            rw [hpb] at y1; cases y1
            have lb := y7.length
            rw [lb] at hj
            obtain ⟨sq, jl, _, _⟩ := ixN_seq hj
            obtain ⟨w, hw, rw'⟩ := y7.get hd
            refine ⟨pb, x1, i, j, w, rfl, rfl, y3, hc.1.2.1, hc.1.2.2, sq, hw, ?_⟩
            have lx : (x1.eraseIdx j).length ≤ sizeLine := by
              rw [List.length_eraseIdx]; split <;> omega
            have G3 := g2.wr (o := .lst (x1.eraseIdx j)) y2 y4 y5
            have S3 := s2.write hb1 hpb lx (y7.eraseIdx j)
            have ha3 : (r.2.set kb (some (.lst (bs.eraseIdx j), true)))[ka]? = some (some (.lst as, true)) := by
              rw [List.getElem?_set_ne (fun z => hc.2 z.symm)]; exact ha1
            obtain ⟨p2, x2, z1, z2, z3, z4, z5, z6, z7⟩ := S3.own ha3
            rw [hpa] at z1; cases z1
            have la := z7.length
            refine ⟨pa, x2, w, rfl, rfl, z3, by rw [line24]; omega, ?_⟩
            exact q1 σ F2 _ m1 (G3.wr z2 z4 z5) (S3.write ha3 hpa (by rw [List.length_append, line24]; simp; omega) (z7.append (.one rw')))
          · exact q1.elim
        · exact q1.elim
      · exact q1.elim
    · exact q1.elim
  · exact q.elim
end
end EV

namespace EV
open PySem PySem.Spec PyProof.Rows L2
/-! ### methods of built-in values -/
def cMt (T : String) (g : Cells → D → List D → Option B) (fo : SE) (a : SA) : SE := fun ca ρ S => (fo ca ρ S).bind fun b S => if tyD b.1 = some T then (a ca ρ S).bind fun ds S => lift (g S b.1 ds) S else .no
def rDm (K : PySem.W.Frag) (g : Cells → D → List D → Option B) : V → List V → Hp → VK → Prop := fun x xs H Q => ∃ F m S d ds b, Wd K F H m S ∧ Rep K F m d x ∧ RepL K F m ds xs ∧ g S d ds = some b ∧ Outs K F H m S b Q
theorem tyV_of {K : PySem.W.Frag} {F H : Hp} {m : List Addr} {d : D} {x : V} {T : String} (s : Sub F H) (r : Rep K F m d x) (h : tyD d = some T) (hT : T = "list" ∨ T = "str") : tyV K T x H := by
  cases d <;> simp only [tyD] at h <;> cases h <;> simp only [Rep] at r
  · rcases hT with z | z <;> exact absurd z (by decide)
  · rcases hT with z | z <;> exact absurd z (by decide)
  · rcases hT with z | z <;> exact absurd z (by decide)
  · obtain ⟨rfl, _⟩ := r
    exact rfl
  · rcases hT with z | z <;> exact absurd z (by decide)
  · obtain ⟨p, xs, rfl, q, _⟩ := r
    exact .inl ⟨rfl, xs, SqL.of (s _ _ q)⟩
  · rcases hT with z | z <;> exact absurd z (by decide)
section
variable {pg : Pg} {N : List Str} {sc : Scope}
theorem okMt {o e : Expr} {es : List Expr} {name : Str} {apos cpos : Pos} {T id : String} {g : Cells → D → List D → Option B} {fo : SE} {a : SA} (pa : PlainAttrs T) (slot : Slot T name id) (hty : typeOf (.builtin id) = pure (.type "method_descriptor")) (hT : T = "list" ∨ T = "str")
    (hm : ∀ X, X.calm = true → Rm 0 X.A → MtR X id (rDm X.K g)) (ho : OkE pg N sc o fo) (ha : OkA pg N sc (e :: es) a) (hs : (e :: es).all noStar = true) (hn : notCallE o = true) (h30 : es.length < 20) (hl : (apos.endLine == cpos.line) = true) :
    OkE pg N sc (.Call (.Attribute o name apos) (e :: es) [] cpos) (cMt T g fo a) := fun X ca lev W C => by
  have hs' : noStar e = true ∧ es.all noStar = true := by simpa only [List.all_cons, Bool.and_eq_true] using hs
  refine PE.imp (pe_bm pa slot hty (hm X C.calm (C.room.mono (Nat.zero_le _))) (ho X ca lev W C) (ha X ca lev W C) (abase hn) (few_ok hs h30) hl (starEach_cons hs'.1) (noStar_any hs'.2)) fun σ H Q ⟨ρ, S, F, m, w, r, q⟩ => ?_
  refine tE.ofF w r (Post.mono (Post.bind q) fun b S1 F1 H1 m1 e1 g1 q1 x rx => ?_)
  split at q1
  · rename_i ht
    refine ⟨tyV_of g1.w.sub rx ht hT, ρ, S1, F1, m1, g1.w, r.gr g1, Post.mono (Post.bind q1) fun ds S2 F2 H2 m2 e2 g2 q2 vs rvs => ?_⟩
    obtain ⟨bb, e3, oo⟩ := post_lift (fun p h0 => (g1.trans g2).fresh h0) q2
    exact ⟨F2, m2, S2, b.1, ds, bb, g2.w, rx.gr g2, rvs, e3, oo⟩
  · exact q1.elim
end
end EV

namespace EV
open PySem PySem.Spec PyProof.Rows L2

/-! ### own classes: fields, properties -/
theorem lookup_rep {K : PySem.W.Frag} {F : Hp} {m : List Addr} {x : Str} {d : D} : ∀ {fs : List (Str × V)} {ds : List D}, RepL K F m ds (fs.map (·.2)) → ((fs.map (·.1)).zip ds).lookup x = some d → ∃ v, fs.lookup x = some v ∧ Rep K F m d v
  | [], ds, r, h => by simp at h
  | (y, v) :: fs, [], r, h => by simp at h
  | (y, v) :: fs, e :: ds, r, h => by
    simp only [List.map_cons, RepL] at r
    obtain ⟨u, us, e1, r1, r2⟩ := r
    cases e1
    simp only [List.map_cons, List.zip_cons_cons, List.lookup_cons] at h ⊢
    cases q : (x == y) with
    | true =>
      rw [q] at h
      cases h
      exact ⟨v, rfl, r1⟩
    | false =>
      rw [q] at h
      exact lookup_rep r2 h
def gAttr (pg : Pg) (x : Str) (_ : Cells) : D → Option B
  | .exc c v => if x == ("value" : Str) && pg.excs.contains c then some (v, false) else none
  | .ins c ns vs => match pg.cls.lookup c with
    | some i => if i.fs.contains x then ((ns.zip vs).lookup x).map fun d => (d, false) else match i.props.lookup x with
      | some f => ((ns.zip vs).lookup f).map fun d => (d, false)
      | none => none
    | none => none
  | _ => none
section
variable {pg : Pg} {N : List Str} {sc : Scope}
theorem getter_free {P : Program} {w : World} {X : Cx} : Passes (CX P w) X (fun _ _ _ => False) := fun pins σ H s e s' I h => by
  obtain ⟨_, _, _, _, _, _, _, _, _, _, _, _, z⟩ := h
  exact z.elim
theorem okAttr {e : Expr} {x : Str} {pos : Pos} {f : SE} (hn : notCallE e = true) (h : OkE pg N sc e f) : OkE pg N sc (.Attribute e x pos) (cOp1 (gAttr pg x) f) := fun X ca lev W C => by
  refine ⟨fun pins s σ H Q I h0 => ?_⟩
  have PEe := h X ca lev W C
  obtain ⟨ρ, S, F, m, w, r, q⟩ := h0
  unfold cOp1 at q
  cases er : f ca ρ S with
  | no => rw [er] at q; exact q.elim
  | exn c d S1 =>
    rw [er] at q
    refine (pe_fld (f := x) (pos := pos) PEe (abase hn)).run pins s σ H Q I ?_
    refine ⟨ρ, S, F, m, w, r, ?_⟩
    rw [er]
    exact q
  | ok b S1 =>
    rw [er] at q
    obtain ⟨d, o⟩ := b
    have q1 : Post X.K W σ F H m (lift (gAttr pg x S1 d) S1) fun b _ F' H' m' => ∀ v, RepB X.K H F' H' m' b v → Q v H' := q
    cases d with
    | exc c v =>
      simp only [gAttr] at q1
      split at q1
      · rename_i hc
        simp only [Bool.and_eq_true] at hc
        have := eq_of_beq hc.1
        subst this
        refine (EVX.pe_vl (pos := pos) PEe (abase hn)).run pins s σ H Q I (tE.ofF w r ?_)
        rw [er]
        intro F' H' m' g z rz
        have rz' : Rep X.K F' m' (.exc c v) z := rz
        simp only [Rep] at rz'
        obtain ⟨a, dx, y, rfl, h1, h2, h3⟩ := rz'
        exact ⟨a, dx, y, _, _, c, rfl, C.lib.exc c (List.contains_iff_mem.mp hc.2), g.w.sub _ _ h1, g.w.sub _ _ h2, q1 F' H' m' g y h3⟩
      · exact q1.elim
    | ins c ns vs =>
      simp only [gAttr] at q1

      split at q1
      · rename_i i hi
        have CK := C.lib.cls c i hi
        have pick : ∀ (z : Str) (d : D), (ns.zip vs).lookup z = some d → ∀ (F' H' : Hp) (m' : List Addr) (v : V), Gr X.K F H m F' H' m' S1 → Rep X.K F' m' (.ins c ns vs) v → ∃ a dx fs u, v = .ref a ∧ H' a = some (.ins (He.ga X.K c) dx fs) ∧ fs.lookup z = some u ∧ Rep X.K F' m' d u := fun z d hz F' H' m' v g rv => by
          simp only [Rep] at rv
          obtain ⟨a, dx, fs, rfl, h1, rfl, h3⟩ := rv
          obtain ⟨u, l, ru⟩ := lookup_rep h3 hz
          exact ⟨a, dx, fs, u, rfl, g.w.sub _ _ h1, l, ru⟩
        split at q1
        · rename_i hf
          cases hl : (ns.zip vs).lookup x with
          | none => rw [hl] at q1; exact q1.elim
          | some d =>
            rw [hl] at q1
            refine (pe_fld (f := x) (pos := pos) PEe (abase hn)).run pins s σ H Q I (tE.ofF w r ?_)
            rw [er]
            intro F' H' m' g z rz
            obtain ⟨a, dx, fs, u, rfl, h1, l, ru⟩ := pick x d hl F' H' m' z g rz
            exact ⟨a, _, dx, fs, u, rfl, h1, CK.cl, CK.fld x (List.contains_iff_mem.mp hf), l, q1 F' H' m' g u ru⟩
        · split at q1
          · rename_i fz hp
            cases hl : (ns.zip vs).lookup fz with
            | none => rw [hl] at q1; exact q1.elim
            | some d =>
              rw [hl] at q1
              obtain ⟨p, g, fd, PO, FO, bn⟩ := CK.prop x fz hp
              refine (pe_prop (pos := pos) (dvs := []) (E := fun _ _ _ => False) PEe CK.cl PO FO (C.room.rm.mono C.lib.lev2) bn .nil getter_free (abase hn)).run pins s σ H Q I (tE.ofF w r ?_)
              rw [er]
              intro F' H' m' g z rz
              obtain ⟨a, dx, fs, u, rfl, h1, l, ru⟩ := pick fz d hl F' H' m' z g rz
              exact ⟨a, dx, fs, rfl, h1, a, dx, fs, u, rfl, h1, l, q1 F' H' m' g u ru⟩
          · exact q1.elim
      · exact q1.elim
    | _ => exact q1.elim
end
end EV

namespace EV
open PySem PySem.Spec PyProof.Rows L2

/-! ### own classes: making, methods, len -/
theorem make_gd {A : Around} {C : Addr} {us : List Value} (h : A.guards = some []) : (A.under (.builtin "type.__call__" ⟨.ref C :: us, []⟩)).guards = some [] := by
  first
    | exact h
    | (simpa [Around.under, Code.guards, pushGuards, Code.isGuard] using h)
theorem Rm.make {k : Nat} {A : Around} (r : Rm (k + 1) A) (C : Addr) (us : List Value) : Rm k (A.under (.builtin "type.__call__" ⟨.ref C :: us, []⟩)) := ⟨r.rm.make C us [], make_gd r.gd⟩
theorem Rm.in1 {k : Nat} {A : Around} (r : Rm (k + 1) A) : Rm k A.in1 := ⟨r.rm.in1, by first | exact r.gd | simpa [Around.in1] using r.gd⟩
/-- an object is made -/
theorem run_mkG {X : Cx} {W : WX} {k : Nat} {C f : Addr} {fd : FuncData} {ps : List Str} {sp : Sp} {pins : List (Addr × Obj)} {σ : St} {H : Hp} {s : Shared} {Q : VK} {us : List Value} {vs : List V} (M : Mk X.K C f)
    (F : FnG X.prog X.w X.K X.mg X.base (CX X.prog X.w) k f fd ps sp) (hr : Rm (k + 1) X.A) (hb : Binds X.K fd ps []) (tk : Takes X W) (I : Inv X pins σ H s) (r : Vals vs us)
    (h : ∀ x dx, H x = none → H dx = none → dx ≠ x → sp (.ref x :: vs) (upd (upd H dx (.own x)) x (.ins C dx [])) (fun v H2 => v = .non ∧ Q (.ref x) H2) fun c d H' => W c d σ H') :
    wpAny (model X.prog X.w) X.A (call (.ref C) us) (EP X pins σ Q) X.xe s := by
  let n := s.heap.objs.size
  have q0 := h (n + 1) n (I.hok.fresh (Nat.le_succ _)) (I.hok.fresh (Nat.le_refl _)) (Nat.ne_of_lt (Nat.lt_succ_self _))
  have J := Inv.made (C := C) I
  have rr : Vals (V.ref (n + 1) :: vs) (Value.ref (n + 1) :: us) := .cons rfl r
  have hl : (Value.ref (n + 1) :: us ++ []).length = ps.length := by
    have e := rr.length
    rw [F.len _ _ _ _ q0] at e
    rw [List.append_nil]
    exact e.symm
  have z := F.run _ X.stack _ _ ⟨Value.ref (n + 1) :: us, []⟩ (Value.ref (n + 1) :: us) _ _ _ (hr.make C us) (J.env0.make C us []) (by
    have := hb _ (Value.ref (n + 1) :: us) J.kIn hl
    rwa [List.append_nil] at this) rr q0
  refine wpAny_call (make_map (f := f) I.kIn M.makes M.init (beq_iff_eq.mp M.fn) (codeAny_mono z fun r s' hq => ?_))
  cases r with
  | error e => exact tk e s' (XE.of_call J (fun _ _ _ q => q) hq)
  | ok fl =>
    cases fl with
    | ret u =>
      obtain ⟨v, H', J', rv, ev, q3⟩ := J.after hq
      subst ev
      exact ⟨rv, V.ref (n + 1), H', J', rfl, q3⟩
    | next => exact hq.elim
    | brk => exact hq.elim
    | cont => exact hq.elim
def cMake (c : Str) (a : SA) : SE := fun ca ρ S => (a ca ρ S).bind fun ds S => ca (c, some "__init__") ds S
/-- o.m(e, ..): d the object, m its method -/
def mtOk (pg : Pg) (m : Str) (n : Nat) : D → Option (Str × List D)
  | .ins c ns _ => match pg.cls.lookup c with
    | some i => match i.mts.lookup m with
      | some fi => if !ns.contains m && decide (n + fi.dfl.length ≥ fi.ps.length) && decide (n ≤ fi.ps.length) then some (c, fi.dfl.drop (n + fi.dfl.length - fi.ps.length)) else none
      | none => none
    | none => none
  | _ => none
def cMeth (pg : Pg) (m : Str) (n : Nat) (f : SE) (a : SA) : SE := fun ca ρ S => (f ca ρ S).bind fun o S => match mtOk pg m (n + 1) o.1 with
  | some (c, dfl) => (a ca ρ S).bind fun ds S => ca (c, some m) (o.1 :: ds ++ dfl) S
  | none => .no
def cLen (pg : Pg) (f : SE) : SE := fun ca ρ S => (f ca ρ S).bind fun o S => match mtOk pg "__len__" 1 o.1 with
  | some (c, dfl) => (match ca (c, some "__len__") (o.1 :: dfl) S with
    | .ok (.int n, false) S => if decide (0 ≤ n) && decide (n < 2 ^ 63) then .ok (.int n, false) S else .no
    | _ => .no)
  | none => lift (bLen S [o.1]) S
section
variable {pg : Pg} {N : List Str} {sc : Scope}
theorem okMake {x : Str} {i : ClI} {e : Expr} {es : List Expr} {p pos : Pos} {a : SA} (hi : pg.cls.lookup x = some i) (hg : glB sc x = true) (hp : plainName x = true) (hs : (e :: es).all noStar = true)
    (h1 : (e :: es).length = i.ps.length) (ha : OkA pg N sc (e :: es) a) (hlen : ∀ ca ρ S ds S', a ca ρ S = .ok ds S' → ds.length = (e :: es).length) :
    OkE pg N sc (.Call (.Name x p) (e :: es) [] pos) (cMake x a) := fun X ca lev W C => by
  have hs' : noStar e = true ∧ es.all noStar = true := by simpa only [List.all_cons, Bool.and_eq_true] using hs
  have CK := C.lib.cls x i hi
  obtain ⟨f, fd, j, M, hj, G, hb⟩ := CK.made
  refine ⟨fun pins s σ H Q I h => ?_⟩
  obtain ⟨ρ, S, F, m, w, r, q⟩ := h
  refine wpAny_Call_Name_kw (ld_glob I (C.gl hg) CK.mgC ?_ (plain1 hp).1)
  have hA : tA X.K W (a ca) σ H fun vs H1 => ∀ y dx, H1 y = none → H1 dx = none → dx ≠ y →
      spIni X.K ca x i.ps.length (.ref y :: vs) (upd (upd H1 dx (.own y)) y (.ins (He.ga X.K x) dx [])) (fun v H2 => v = .non ∧ Q (.ref y) H2) fun c d H' => W c d σ H' := by
    refine ⟨ρ, S, F, m, w, r, Post.mono (Post.bind q) fun ds S1 F1 H1 m1 e1 g1 q1 vs rvs => ?_⟩
    intro y dx hy hdx hne
    have l1 := hlen ca ρ S ds S1 e1
    have l2 := rvs.length
    refine ⟨by rw [List.length_cons]; omega, H1, y, dx, vs, ds, S1, F1, m1, rfl, rfl, hy, hdx, hne, g1.w, rvs, ?_⟩
    cases er : ca (x, some "__init__") ds S1 with
    | no => rw [er] at q1; exact q1
    | exn c d S2 => rw [er] at q1; exact q1
    | ok b S2 =>
      rw [er] at q1
      exact fun F' H' m' g rb => ⟨rfl, q1 F' H' m' g (.ref y) (RepB.weak g1 rb)⟩
  refine PySem.W.callWith_K (h₀ := X.base) I.ok.mod.kin M.kp (thn ((ha X ca lev W C).run pos pins s σ H _ I hA) fun us s1 ⟨vs, H1, I1, r1, q1⟩ => ⟨I1.kIn, ?_⟩) (starEach_cons hs'.1) (noStar_any hs'.2)
  exact run_mkG M G (C.room.mono hj) hb C.tk I1 r1 q1
theorem mtOk_in {m : Str} {n : Nat} {d : D} {c : Str} {dfl : List D} (h : mtOk pg m n d = some (c, dfl)) : ∃ ns vs i fi, d = .ins c ns vs ∧ pg.cls.lookup c = some i ∧ i.mts.lookup m = some fi ∧ ns.contains m = false ∧ n + fi.dfl.length ≥ fi.ps.length ∧ n ≤ fi.ps.length ∧ dfl = fi.dfl.drop (n + fi.dfl.length - fi.ps.length) := by
  cases d with
  | ins c' ns vs =>
    simp only [mtOk] at h
    split at h
    · rename_i i hi
      split at h
      · rename_i fi hfi
        split at h
        · rename_i hc
          simp only [Bool.and_eq_true, Bool.not_eq_true', decide_eq_true_eq] at hc
          cases h
          exact ⟨ns, vs, i, fi, rfl, hi, hfi, hc.1.1, hc.1.2, hc.2, rfl⟩
        · cases h
      · cases h
    · cases h
  | _ => simp only [mtOk] at h; cases h
theorem noFld {fs : List (Str × V)} {m : Str} (h : (fs.map (·.1)).contains m = false) : fs.lookup m = none := by
  induction fs with
  | nil => rfl
  | cons p fs ih =>
    obtain ⟨y, v⟩ := p
    simp only [List.map_cons, List.contains_cons, Bool.or_eq_false_iff] at h
    rw [List.lookup_cons, h.1]
    exact ih h.2
theorem okMeth {o e : Expr} {es : List Expr} {m : Str} {apos pos : Pos} {f : SE} {a : SA} (hn : notCallE o = true) (hs : (e :: es).all noStar = true) (ho : OkE pg N sc o f) (ha : OkA pg N sc (e :: es) a) (hlen : ∀ ca ρ S ds S', a ca ρ S = .ok ds S' → ds.length = (e :: es).length)
    (ht : ∀ env, ∃ pl : Sem Bool, eval (.Call (.Attribute o m apos) (e :: es) [] pos) env = (do
      let ov ← eval o env
      standAt apos.atName
      let (f, first) ← holding [ov] (getMethod ov m pl)
      callWith pos f first (backTo pos (starEach (e :: es) env)) (backToKw pos (keywordEach [] env)))) :
    OkE pg N sc (.Call (.Attribute o m apos) (e :: es) [] pos) (cMeth pg m (e :: es).length f a) := fun X ca lev W C => by
  have hs' : noStar e = true ∧ es.all noStar = true := by simpa only [List.all_cons, Bool.and_eq_true] using hs
  obtain ⟨pl, hpl⟩ := ht X.env
  refine ⟨fun pins s σ H Q I h => ?_⟩
  obtain ⟨ρ, S, F, mm, w, r, q⟩ := h
  have hO : tE X.K W (f ca) σ H fun x H1 => ∃ (c : Str) (p dx : Addr) (fs : List (Str × V)) (fi : FnI) (g : Addr) (fd : FuncData) (j : Nat), x = .ref p ∧ H1 p = some (.ins (He.ga X.K c) dx fs) ∧ Cls X.K (He.ga X.K c) ∧ fs.lookup m = none ∧ Meth X.K (He.ga X.K c) m g ∧ j + 1 ≤ lev ∧ FnG X.prog X.w X.K X.mg X.base (CX X.prog X.w) j g fd fi.ps (spOf X.K ca (c, some m) fi.ps.length) ∧
      ∃ dvs us, Vals dvs us ∧ Binds X.K fd fi.ps us ∧ tA X.K W (a ca) σ H1 fun vs H2 => spOf X.K ca (c, some m) fi.ps.length ((.ref p :: vs) ++ dvs) H2 Q fun c d H' => W c d σ H' := by
    refine tE.ofF w r (Post.mono (Post.bind q) fun b S1 F1 H1 m1 e1 g1 q1 x rx => ?_)
    split at q1
    · rename_i c dfl hm
      obtain ⟨ns, vs, i, fi, hd, hi, hfi, hnm, hn1, hn2, hdfl⟩ := mtOk_in hm
      have CK := C.lib.cls c i hi
      obtain ⟨g, fd, j, M, hj, G, hb⟩ := CK.mt m fi hfi
      obtain ⟨dvs, us, rv, bn, rd⟩ := hb _ hn1 hn2
      rw [← hdfl] at rd
      have rx' := rx
      rw [hd] at rx'
      simp only [Rep] at rx'
      obtain ⟨p, dx, fs, rfl, h1, h2, h3⟩ := rx'
      refine ⟨c, p, dx, fs, fi, g, fd, j, rfl, g1.w.sub _ _ h1, CK.cl, noFld (by rw [h2]; exact hnm), M, hj, G, dvs, us, rv, bn, ρ, S1, F1, m1, g1.w, r.gr g1, Post.mono (Post.bind q1) fun ds S2 F2 H2 m2 e2 g2 q2 vs rvs => ?_⟩
      have l1 := hlen ca ρ S1 ds S2 e2
      have l2 := rvs.length
      have l3 := (rd F2 m2).length
      have l4 : dfl.length = fi.dfl.length - ((e :: es).length + 1 + fi.dfl.length - fi.ps.length) := by rw [hdfl, List.length_drop]
      refine call_sp g2.w (fun p h0 => (g1.trans g2).fresh h0) q2 (.cons (rx.gr g2) rvs) (rd F2 m2) ?_
      rw [List.length_append, List.length_cons]
      omega
    · exact q1.elim
  refine PySem.W.methodCall_KW (pl := pl) (thn ((ho X ca lev W C).run pins s σ H _ I hO) fun u s1 ⟨x, H1, I1, rx, c, p, dx, fs, fi, g, fd, j, ex, h1, cl, l, M, hj, G, dvs, us0, rv, bn, q1⟩ => ?_) hpl
  subst ex
  obtain rfl : u = Value.ref p := rx
  refine getmeth_ok I1 h1 cl M l ?_
  refine PySem.W.callWith_K (first := [.ref p]) (h₀ := X.base) I.ok.mod.kin M.kp (thn ((ha X ca lev W C).run pos pins s1 σ H1 _ I1 q1) fun us s2 ⟨vs, H2, I2, r2, q2⟩ => ⟨I2.kIn, ?_⟩) (starEach_cons hs'.1) (noStar_any hs'.2)
  exact run_fnG (us := .ref p :: us) (vs := .ref p :: vs) G (C.room.mono (by omega)) bn rv C.tk I2 (.cons rfl r2) q2
end
end EV
namespace EV
open PySem PySem.Spec PyProof.Rows L2
theorem mt_gen {o e : Expr} {m : Str} {apos pos : Pos} {es : List Expr} (hn : notCallE o = true) (hs : (e :: es).all noStar = true) (h20 : es.length < 20) (hl : (apos.endLine == pos.line) = true) (env : Env) :
    ∃ pl : Sem Bool, eval (.Call (.Attribute o m apos) (e :: es) [] pos) env = (do
      let ov ← eval o env
      standAt apos.atName
      let (f, first) ← holding [ov] (getMethod ov m pl)
      callWith pos f first (backTo pos (starEach (e :: es) env)) (backToKw pos (keywordEach [] env))) := by
  refine ⟨(do return (← importBound o env).getD true), ?_⟩
  have e1 : eval (.Call (.Attribute o m apos) (e :: es) [] pos) env = (do
      let ov ← attributeBase o m env (eval o env)
      standAt apos.atName
      methodCall o m apos pos env ov ((e :: es).length + ([] : List Keyword).length) (backTo pos (starEach (e :: es) env)) (backToKw pos (keywordEach [] env))) := by rfl
  have hf : methodCallForm ((e :: es).length + ([] : List Keyword).length) (backTo pos (starEach (e :: es) env)) (backToKw pos (keywordEach [] env)) = true := few_ok hs h20
  rw [e1, abase hn]
  unfold methodCall calleeOf methodCallPos
  rw [hf, hl]
  rfl
end EV

namespace EV
open PySem PySem.Spec PyProof.Rows L2 PySem.Calls Builtin
/-! ### len of an own object -/
/-- a def run from inside a built-in operation -/
theorem run_in1 {X : Cx} {k : Nat} {f : Addr} {fd : FuncData} {ps : List Str} {sp : Sp} {dvs : List V} {ds : List Value} {pins : List (Addr × Obj)} {σ : St} {H : Hp} {s : Shared} {Q : VK} {us : List Value} {vs : List V} {E' : Value → Shared → Prop}
    (F : FnG X.prog X.w X.K X.mg X.base (CX X.prog X.w) k f fd ps sp) (hr : Rm (k + 1) X.A) (hb : Binds X.K fd ps ds) (hd : Vals dvs ds) (I : Inv X pins σ H s) (r : Vals vs us)
    (h : sp (vs ++ dvs) H Q fun _ _ _ => False) : wpAny (model X.prog X.w) X.A.in1 (call (.ref f) us) (EP X pins σ Q) E' s := by
  have r2 : Vals (vs ++ dvs) (us ++ ds) := r.append hd
  have hl : (us ++ ds).length = ps.length := r2.length ▸ F.len _ _ _ _ h
  have z := F.run X.A.in1 X.stack s H ⟨us, []⟩ (us ++ ds) (vs ++ dvs) Q _ hr.in1 I.env0.in1 (hb s us I.kIn hl) r2 h
  refine wpAny_call (codeAny_mono z fun e s' hq => ?_)
  cases e with
  | error e =>
    obtain ⟨_, _, _, _, _, _, _, _, _, _, _, _, y⟩ := hq
    exact y.elim
  | ok fl =>
    cases fl with
    | ret u => exact I.after hq
    | next => exact hq.elim
    | brk => exact hq.elim
    | cont => exact hq.elim
def rLenI (X : Cx) (pg : Pg) (ca : Ca) : List V → Hp → VK → Prop := fun xs H Q => ∃ (c : Str) (i : ClI) (fi : FnI) (p dx : Addr) (fs : List (Str × V)), xs = [.ref p] ∧ H p = some (.ins (He.ga X.K c) dx fs) ∧ pg.cls.lookup c = some i ∧ i.mts.lookup ("__len__" : Str) = some fi ∧
  1 + fi.dfl.length ≥ fi.ps.length ∧ 1 ≤ fi.ps.length ∧ ∀ dvs, (∀ F m, RepL X.K F m (fi.dfl.drop (1 + fi.dfl.length - fi.ps.length)) dvs) → spOf X.K ca (c, some "__len__") fi.ps.length ([.ref p] ++ dvs) H (fun v H2 => ∃ n : Int, v = .int n ∧ 0 ≤ n ∧ n < 2 ^ 63 ∧ Q (.int n) H2) fun _ _ _ => False
section
variable {pg : Pg} {N : List Str} {sc : Scope}
theorem crLenI {X : Cx} {ca : Ca} {lev : Nat} {W : WX} (C : Ctx X sc N pg ca lev W) : CallR X (.builtin "len") (rLenI X pg ca) := by
  intro pins s σ H xs us Q I r h
  obtain ⟨c, i, fi, p, dx, fs, rfl, ea, hi, hf, n1, n2, hsp⟩ := h
  obtain ⟨f, fd, j, M, hj, G, hb⟩ := (C.lib.cls c i hi).mt _ fi hf
  obtain ⟨dvs, ds, rv, bn, rd⟩ := hb 1 n1 n2
  have eu : us = [Value.ref p] := by
    cases r with
    | cons r1 r2 =>
      cases r2
      cases (show _ = Value.ref p from r1)
      rfl
  subst eu
  obtain ⟨mA, O, _, _, _, _⟩ := ins_get I.hok ea
  obtain ⟨od, J, _⟩ := O.look
  have z := run_in1 (E' := X.xe) G (C.room.mono hj) bn rv I (us := [.ref p]) (vs := [.ref p]) (.cons rfl .nil) (hsp dvs rd)
  refine Calls.call_function_entry kind_len plain_len entry_len (args_len1 _) ?_
  unfold Builtin.«len»
  refine wpAny_bind (m := oneArg "len" _) (wpAny_pure ?_)
  refine wpAny_bind (m := callSpecial? (.ref p) (Str.ofString "__len__")) (PySem.W.special_fn I.kIn J M.at_ (beq_iff_eq.mp M.fn) (wpAny_mono z (fun u s' hu => ?_) fun _ _ y => y))
  obtain ⟨v, H', I', ru, n, rfl, h0, h1, q⟩ := hu
  obtain ⟨t, rfl⟩ : ∃ t, u = Value.int n t := ru
  refine wpAny_bind (wpAny_holding (wpAny_pure ?_))
  refine wpAny_bind (wpAny_letGo ?_)
  show wpAny _ _ (if n < 0 then _ else _) _ _ _
  rw [if_neg (by omega)]
  show wpAny _ _ (if n ≥ 2 ^ 63 then _ else _) _ _ _
  rw [if_neg (by omega)]
  exact wpAny_bind (wpAny_mkInt (wpAny_pure ⟨_, rfl, V.int n, H', I'.tok _, ⟨_, rfl⟩, q⟩))
theorem okLen {e : Expr} {p pos : Pos} {f : SE} (hg : glB sc "len" = true) (hb : ("len" : Str) ∈ pg.blts) (hs : noStar e = true) (h : OkE pg N sc e f) : OkE pg N sc (.Call (.Name "len" p) [e] [] pos) (cLen pg f) := fun X ca lev W C => by
  refine ⟨fun pins s σ H Q I h0 => ?_⟩
  obtain ⟨ρ, S, F, m, w, r, q⟩ := h0
  have PA1 : PA X [e] (tCons (tE X.K W (f ca)) tNil) := pa_cons (h X ca lev W C) pa_nil (starEach_cons hs)
  have bt : bootBuiltins "len" = some (.builtin "len") := by boot_by_name
  have pl : plainName "len" = true := by decide
  unfold cLen at q
  cases er : f ca ρ S with
  | no => rw [er] at q; exact q.elim
  | exn c d S1 =>
    rw [er] at q
    refine (pe_callB (crLen C.calm (C.room.mono (Nat.zero_le _))) (C.gl hg) (C.lib.blt _ hb) bt PA1 (plain1 pl).2.2 (plain1 pl).1 (starEach_cons hs) rfl).run pins s σ H Q I ?_
    refine ⟨ρ, S, F, m, w, r, ?_⟩
    rw [er]
    exact q
  | ok b S1 =>
    rw [er] at q
    obtain ⟨d, o⟩ := b
    have q1 : Post X.K W σ F H m (match mtOk pg "__len__" 1 d with
      | some (c, dfl) => (match ca (c, some "__len__") (d :: dfl) S1 with
        | .ok (.int n, false) S => if decide (0 ≤ n) && decide (n < 2 ^ 63) then .ok (.int n, false) S else .no
        | _ => .no)
      | none => lift (bLen S1 [d]) S1) (fun b _ F' H' m' => ∀ v, RepB X.K H F' H' m' b v → Q v H') := q
    cases em : mtOk pg "__len__" 1 d with
    | none =>
      rw [em] at q1
      refine (pe_callB (crLen C.calm (C.room.mono (Nat.zero_le _))) (C.gl hg) (C.lib.blt _ hb) bt PA1 (plain1 pl).2.2 (plain1 pl).1 (starEach_cons hs) rfl).run pins s σ H Q I ?_
      refine tE.ofF w r ?_
      rw [er]
      intro F' H' m' g v rv
      have q2 : Post X.K W σ F H m (lift (bLen S1 [d]) S1) fun b _ F' H' m' => ∀ v, RepB X.K H F' H' m' b v → Q v H' := q1
      cases eb : bLen S1 [d] with
      | none => rw [eb] at q2; exact q2.elim
      | some bb =>
        rw [eb] at q2
        refine ⟨F', m', S1, [d], bb, g.w, .one rv, eb, fun v2 F2 H2 m2 g2 r2 => q2 F2 H2 m2 (g.trans g2) v2 (RepB.weak g r2)⟩
    | some cd =>
      obtain ⟨c, dfl⟩ := cd
      rw [em] at q1
      obtain ⟨ns, vs, i, fi, hd, hi, hfi, hnm, hn1, hn2, hdfl⟩ := mtOk_in em
      refine (pe_callB (crLenI C) (C.gl hg) (C.lib.blt _ hb) bt PA1 (plain1 pl).2.2 (plain1 pl).1 (starEach_cons hs) rfl).run pins s σ H Q I ?_
      refine tE.ofF w r ?_
      rw [er]
      intro F' H' m' g v rv
      have rv' : Rep X.K F' m' (.ins c ns vs) v := by rw [← hd]; exact rv
      simp only [Rep] at rv'
      obtain ⟨p, dx, fs, rfl, h1, h2, h3⟩ := rv'
      refine ⟨c, i, fi, p, dx, fs, rfl, g.w.sub _ _ h1, hi, hfi, hn1, hn2, fun dvs rd => ?_⟩
      rw [← hdfl] at rd
      have l3 := (rd F' m').length
      have l4 : dfl.length = fi.dfl.length - (1 + fi.dfl.length - fi.ps.length) := by rw [hdfl, List.length_drop]
      refine ⟨by rw [List.length_append, List.length_cons]; simp; omega, d :: dfl, S1, F', m', g.w, (RepL.one rv).append (rd F' m'), ?_⟩
      have q2 : Post X.K W σ F H m (match ca (c, some "__len__") (d :: dfl) S1 with
        | .ok (.int n, false) S => if decide (0 ≤ n) && decide (n < 2 ^ 63) then .ok (.int n, false) S else .no
        | _ => .no) (fun b _ F' H' m' => ∀ v, RepB X.K H F' H' m' b v → Q v H') := q1
      cases ec : ca (c, some "__len__") (d :: dfl) S1 with
      | no => rw [ec] at q2; exact q2.elim
      | exn c d S1 => rw [ec] at q2; exact q2.elim
      | ok b S2 =>
        rw [ec] at q2
        obtain ⟨y, o2⟩ := b
        cases y with
        | int n =>
          cases o2 with
          | true => exact q2.elim
          | false =>
            have q3 : Post X.K W σ F H m (if decide (0 ≤ n) && decide (n < 2 ^ 63) then .ok (.int n, false) S2 else .no) (fun b _ F' H' m' => ∀ v, RepB X.K H F' H' m' b v → Q v H') := q2
            split at q3
            · rename_i hc
              simp only [Bool.and_eq_true, decide_eq_true_eq] at hc
              intro F2 H2 m2 g2 v2 r2
              have r2' : Rep X.K F2 m2 (.int n) v2 := r2
              simp only [Rep] at r2'
              subst r2'
              exact ⟨n, rfl, hc.1, hc.2, q3 F2 H2 m2 (g.trans g2) (.int n) (show Rep X.K F2 m2 (.int n) (.int n) from rep_int n)⟩
            · exact q3.elim
        | _ => exact q2.elim
end
end EV

namespace EV
open PySem PySem.Spec PyProof.Rows L2

/-! ### __init__: statements, then self.f = e one behind another -/
mutual
/-- no cell from the n-th on is spoken of -/
def cfr (n : Nat) : D → Bool
  | .tup ds => cfrL n ds
  | .lst ds => cfrL n ds
  | .dic ks vs => cfrL n ks && cfrL n vs
  | .ins _ _ vs => cfrL n vs
  | .exc _ d => cfr n d
  | .cel i => decide (i < n)
  | _ => true
def cfrL (n : Nat) : List D → Bool
  | [] => true
  | d :: ds => cfr n d && cfrL n ds
end
def cfrC (n : Nat) : Cel → Bool
  | .ls ds => cfrL n ds
  | .ob _ _ vs => cfrL n vs
  | .tb _ _ => true
mutual
theorem Rep.cut {K : PySem.W.Frag} {F : Hp} {m m' : List Addr} {n : Nat} (h : ∀ i a, i < n → m[i]? = some a → m'[i]? = some a) : ∀ (d : D) (v : V), cfr n d = true → Rep K F m d v → Rep K F m' d v
  | .non, v, _, r => by simpa only [Rep] using r
  | .bl b, v, _, r => by simpa only [Rep] using r
  | .int i, v, _, r => by simpa only [Rep] using r
  | .str x, v, _, r => by simpa only [Rep] using r
  | .tup ds, v, c, r => by
    simp only [Rep] at r ⊢
    simp only [cfr] at c
    obtain ⟨p, xs, e, q, z, r⟩ := r
    exact ⟨p, xs, e, q, z, RepL.cut h ds xs c r⟩
  | .lst ds, v, c, r => by
    simp only [Rep] at r ⊢
    simp only [cfr] at c
    obtain ⟨p, xs, e, q, z, r⟩ := r
    exact ⟨p, xs, e, q, z, RepL.cut h ds xs c r⟩
  | .dic ks vs, v, c, r => by
    simp only [Rep] at r ⊢
    simp only [cfr, Bool.and_eq_true] at c
    obtain ⟨p, kvs, e, q, z, r1, r2⟩ := r
    exact ⟨p, kvs, e, q, z, RepL.cut h ks _ c.1 r1, RepL.cut h vs _ c.2 r2⟩
  | .ins cl ns ds, v, c, r => by
    simp only [Rep] at r ⊢
    simp only [cfr] at c
    obtain ⟨p, dx, fs, e, q, z, r⟩ := r
    exact ⟨p, dx, fs, e, q, z, RepL.cut h ds _ c r⟩
  | .exc cl d, v, c, r => by
    simp only [Rep] at r ⊢
    simp only [cfr] at c
    obtain ⟨p, dx, x, e, q, z, r⟩ := r
    exact ⟨p, dx, x, e, q, z, Rep.cut h d x c r⟩
  | .cel i, v, c, r => by
    simp only [Rep] at r ⊢
    simp only [cfr, decide_eq_true_eq] at c
    obtain ⟨a, e, z⟩ := r
    exact ⟨a, h i a c e, z⟩
  | .scr ns, v, _, r => by simpa only [Rep] using r
theorem RepL.cut {K : PySem.W.Frag} {F : Hp} {m m' : List Addr} {n : Nat} (h : ∀ i a, i < n → m[i]? = some a → m'[i]? = some a) : ∀ (ds : List D) (vs : List V), cfrL n ds = true → RepL K F m ds vs → RepL K F m' ds vs
  | [], vs, _, r => by simpa only [RepL] using r
  | d :: ds, vs, c, r => by
    simp only [RepL] at r ⊢
    simp only [cfrL, Bool.and_eq_true] at c
    obtain ⟨x, xs, e, r, q⟩ := r
    exact ⟨x, xs, e, Rep.cut h d x c.1 r, RepL.cut h ds xs c.2 q⟩
end
def isNew (c : Str) : Cel → Bool
  | .ob d ns vs => d == c && ns.isEmpty && vs.isEmpty
  | _ => false
/-- behind the statements the new object's cell is the last one and as it was -/
def dropOk (n : Nat) (c : Str) (S : Cells) : Bool := decide (S.length = n + 1) && (match S[n]? with
  | some o => isNew c o
  | none => false) && (S.take n).all (cfrC n)
def viewI (n : Nat) (ρ : SEn) : En := ρ.map fun b => match b with
  | some (d, false) => if cfr n d then some d else none
  | _ => none
def seqL : List SS → SS
  | [] => sPass
  | f :: fs => sSeq f (seqL fs)
def initE (N : Nat) (ds : List D) : SEn := ds.map (fun d => some (d, false)) ++ List.replicate (N - ds.length) none
def aOf (fs : List SE) : SA := fs.foldr aCons aNil
def selfAt (n : Nat) (ρ : SEn) : Bool := match ρ[0]? with
  | some (some (D.cel j, false)) => decide (j = n)
  | _ => false
def runI (c : Str) (flds : List Str) (n N : Nat) (pres : List SS) (es : List SE) (ca : Ca) (ds : List D) (S : Cells) : R B :=
  if ds.length = n then match seqL pres ca (initE N (.cel S.length :: ds)) (S ++ [.ob c [] []]) with
    | .ok (.nx ρ) S' => if dropOk S.length c S' && selfAt S.length ρ then (aOf es ca (viewI S.length ρ) (S'.take S.length)).bind fun vs S2 => if vs.length = flds.length then .ok (.ins c flds vs, false) S2 else .no else .no
    | .ok _ _ => .no
    | .exn x d S' => if dropOk S.length c S' && cfr S.length d then .exn x d (S'.take S.length) else .no
    | .no => .no
  else .no
section
variable {K : PySem.W.Frag} {F H H1 F' H' : Hp} {m m' : List Addr} {S S' : Cells} {p dx : Addr} {c : Str}
/-- the new object is a cell at first -/
theorem enter (w : Wd K F H1 m S) (hp : H1 p = none) (hd : H1 dx = none) (hne : dx ≠ p) : Wd K F (upd (upd H1 dx (.own p)) p (.ins (He.ga K c) dx [])) (m ++ [p]) (S ++ [.ob c [] []]) := by
  have w1 : Wd K F (upd H1 dx (.own p)) m S := w.lay hd
  have hp1 : upd H1 dx (.own p) p = none := by rw [upd_ne (Ne.symm hne)]; exact hp
  have w2 := w1.lay (o := .ins (He.ga K c) dx []) hp1
  have hl := w2.len
  refine ⟨w2.sub, by simp [hl], ?_, fun i a es h1 h2 => ?_, fun i es h => ?_⟩
  · rw [List.nodup_append]
    exact ⟨w2.nd, by simp, fun a ha b hb e => by
      have : b = p := by simpa using hb
      exact w1.newNot hp1 (this ▸ e ▸ ha)⟩
  · by_cases hlt : i < m.length
    · rw [List.getElem?_append_left hlt] at h1
      rw [List.getElem?_append_left (by omega)] at h2
      obtain ⟨z1, z2⟩ := w2.cel i a es h1 h2
      exact ⟨z1, z2.keep Sub.refl ext_app rfl⟩
    · have hi' := (List.getElem?_eq_some_iff.mp h1).1
      have e : i = m.length := by simp at hi'; omega
      subst e
      rw [List.getElem?_append_right (Nat.le_refl _)] at h1
      rw [List.getElem?_append_right (by omega)] at h2
      simp at h1
      rw [hl] at h2
      simp at h2
      subst h1 h2
      exact ⟨w.newF hp, dx, [], upd_same, rfl, .nil⟩
  · by_cases hlt : i < S.length
    · rw [List.getElem?_append_left hlt] at h
      exact w2.im i es h
    · have hi' := (List.getElem?_eq_some_iff.mp h).1
      have e : i = S.length := by simp at hi'; omega
      subst e
      rw [List.getElem?_append_right (Nat.le_refl _)] at h
      simp at h
      subst h
      rfl
theorem dropOk_in {n : Nat} (h : dropOk n c S = true) : S.length = n + 1 ∧ S[n]? = some (.ob c [] []) ∧ ∀ i o, i < n → S[i]? = some o → cfrC n o = true := by
  unfold dropOk at h
  simp only [Bool.and_eq_true, decide_eq_true_eq] at h
  obtain ⟨⟨h1, h2⟩, h3⟩ := h
  refine ⟨h1, ?_, fun i o hi ho => List.all_eq_true.mp h3 o (List.mem_of_getElem? (i := i) (by rw [List.getElem?_take_of_lt hi]; exact ho))⟩
  split at h2
  · rename_i o ho
    cases o with
    | ls ds => cases h2
    | tb _ _ => cases h2
    | ob d ns vs =>
      simp only [isNew, Bool.and_eq_true] at h2
      obtain ⟨⟨e1, e2⟩, e3⟩ := h2
      have := eq_of_beq e1
      subst this
      cases ns <;> cases e2
      cases vs <;> cases e3
      exact ho
  · cases h2
/-- the cell is left out again -/
theorem leave (g : Gr K F (upd (upd H1 dx (.own p)) p (.ins (He.ga K c) dx [])) (m ++ [p]) F' H' m' S') (hl : m.length = S.length) (hp : H1 p = none) (hd : H1 dx = none) (hne : dx ≠ p) (h : dropOk S.length c S' = true) :
    Gr K F H1 m F' H' (m'.take S.length) (S'.take S.length) ∧ F' p = none ∧ p ∉ m'.take S.length ∧ (∃ dx', H' p = some (.ins (He.ga K c) dx' [])) ∧ (∀ i a, i < S.length → m'[i]? = some a → (m'.take S.length)[i]? = some a) ∧ m'[S.length]? = some p := by
  obtain ⟨h1, h2, h3⟩ := dropOk_in h
  have hm' := g.w.len
  have atp : m'[S.length]? = some p := g.ext S.length p (by rw [← hl]; simp)
  have cut : ∀ i a, i < S.length → m'[i]? = some a → (m'.take S.length)[i]? = some a := fun i a hi e => by rw [List.getElem?_take_of_lt hi]; exact e
  have tk : ∀ i a, (m'.take S.length)[i]? = some a → i < S.length ∧ m'[i]? = some a := fun i a e => by
    have hi := (List.getElem?_eq_some_iff.mp e).1
    rw [List.length_take] at hi
    have hi1 : i < S.length := by omega
    rw [List.getElem?_take_of_lt hi1] at e
    exact ⟨hi1, e⟩
  have tS : ∀ i a, (S'.take S.length)[i]? = some a → i < S.length ∧ S'[i]? = some a := fun i a e => by
    have hi := (List.getElem?_eq_some_iff.mp e).1
    rw [List.length_take] at hi
    have hi1 : i < S.length := by omega
    rw [List.getElem?_take_of_lt hi1] at e
    exact ⟨hi1, e⟩
  obtain ⟨fp, dx', fs, e1, e2, e3⟩ := g.w.cel _ _ _ atp h2
  have efs : fs = [] := by cases fs <;> simp at e2; rfl
  subst efs
  refine ⟨⟨⟨g.w.sub, by simp [hm', h1], g.w.nd.sublist (List.take_sublist ..), fun i a es k1 k2 => ?_, fun i es k => ?_⟩, g.up, fun i a e => ?_, fun a o k1 k2 k3 => ?_⟩, fp, fun z => ?_, ⟨dx', e1⟩, cut, atp⟩
  · obtain ⟨hi, k1'⟩ := tk i a k1
    obtain ⟨_, k2'⟩ := tS i es k2
    obtain ⟨z1, z2⟩ := g.w.cel i a es k1' k2'
    refine ⟨z1, ?_⟩
    have cc := h3 i es hi k2'
    cases es with
    | ls ds => obtain ⟨xs, y1, y2, y3⟩ := z2; exact ⟨xs, y1, y2, y3.cut cut _ _ cc⟩
    | ob c ns vs => obtain ⟨dx, fs, y1, y2, y3⟩ := z2; exact ⟨dx, fs, y1, y2, y3.cut cut _ _ cc⟩
    | tb n q => exact z2
  · obtain ⟨hi, k'⟩ := tS i es k
    exact g.w.im i es k'
  · have hi := (List.getElem?_eq_some_iff.mp e).1
    exact cut i a (by omega) (g.ext i a (by rw [List.getElem?_append_left hi]; exact e))
  · have n1 : a ≠ p := ne_of_none k1 hp
    have n2 : a ≠ dx := ne_of_none k1 hd
    obtain ⟨y1, y2, y3⟩ := g.frm a o (by rw [upd_ne n1, upd_ne n2]; exact k1) k2 (fun z => by
      rcases List.mem_append.mp z with z | z
      · exact k3 z
      · exact n1 (by simpa using z))
    exact ⟨y1, y2, fun z => y3 (List.mem_of_mem_take z)⟩
  · obtain ⟨i, hi⟩ := List.mem_iff_getElem?.mp z
    obtain ⟨hlt, hi'⟩ := tk i p hi
    obtain ⟨x1, q1⟩ := List.getElem?_eq_some_iff.mp hi'
    obtain ⟨x2, q2⟩ := List.getElem?_eq_some_iff.mp atp
    have := (List.getElem_inj g.w.nd).mp (q1.trans q2.symm)
    omega
end
end EV

namespace EV
open PySem PySem.Spec PyProof.Rows L2

/-! ### __init__: what it promises -/
theorem putF_new {f : Str} {y : V} : ∀ {fs : List (Str × V)}, f ∉ fs.map (·.1) → putF f y fs = fs ++ [(f, y)]
  | [], _ => rfl
  | (g, x) :: r, h => by
    simp only [List.map_cons, List.mem_cons, not_or] at h
    show (if g = f then (g, y) :: r else (g, x) :: putF f y r) = _
    rw [if_neg (Ne.symm h.1), putF_new h.2]
    rfl
/-- self.f = e, one behind another -/
inductive SetsOk (pg : Pg) (N : List Str) (sc : Scope) : List Stmt → List Str → List SE → Prop where
  | nil : SetsOk pg N sc [] [] []
  | cons {f : Str} {e : Expr} {np ap p : Pos} {sts : List Stmt} {fs : List Str} {fe : SE} {es : List SE} (hn : notComp e = true) (he : OkE pg N sc e fe) (r : SetsOk pg N sc sts fs es) : SetsOk pg N sc (.Assign [.Attribute (.Name "self" np) f ap] e p :: sts) (f :: fs) (fe :: es)
inductive PresOk (pg : Pg) (N : List Str) (sc : Scope) : List Stmt → List SS → Prop where
  | nil : PresOk pg N sc [] []
  | cons {st : Stmt} {sts : List Stmt} {f : SS} {fs : List SS} (h : OkS pg N sc st f) (r : PresOk pg N sc sts fs) : PresOk pg N sc (st :: sts) (f :: fs)
def tSets (K : PySem.W.Frag) (E : XK) (c : Str) (p : Addr) (F0 H0 : Hp) (m0 : List Addr) (ca : Ca) (flds : List Str) (es : List SE) : TS := fun Dn σ H => ∃ ρ S F m dx fs ns ds, Gr K F0 H0 m0 F H m S ∧ REnv K F m ρ σ ∧ σ[0]? = some (some (V.ref p)) ∧
  H p = some (.ins (He.ga K c) dx fs) ∧ F p = none ∧ p ∉ m ∧ fs.map (·.1) = ns ∧ RepL K F m ds (fs.map (·.2)) ∧ (ns ++ flds).Nodup ∧ H0 p = none ∧ (ns ++ flds).length ≤ 900 ∧
  Post K (fun c d _ H => E c d H) [] F0 H0 m0 (aOf es ca ρ S) fun vs _ F' H' m' => Rep K F' m' (.ins c (ns ++ flds) (ds ++ vs)) (.ref p) → Dn.nx σ H'
section
variable {pg : Pg} {N : List Str} {sc : Scope}
theorem sets_ok {X : Cx} {ca : Ca} {lev : Nat} {E : XK} (C : CtxS X sc N pg ca lev E) {c : Str} {i : ClI} (hi : pg.cls.lookup c = some i) (hN : N[0]? = some ("self" : Str)) (hv : visB sc "self" = true) {p : Addr} {F0 H0 : Hp} {m0 : List Addr} :
    ∀ {sts : List Stmt} {flds : List Str} {es : List SE}, SetsOk pg N sc sts flds es → (∀ f, f ∈ flds → f ∈ i.fs) → PSs X sts (tSets X.K E c p F0 H0 m0 ca flds es) := by
  intro sts flds es h
  induction h with
  | nil =>
    intro _
    refine PSs.imp pss_nil fun Dn σ H ⟨ρ, S, F, m, dx, fs, ns, ds, g, r, hs, hp, hF, hm, e1, r1, nd, h0, hl, q⟩ => ?_
    have q' : Post X.K (fun c d _ H => E c d H) [] F0 H0 m0 (.ok [] S) fun vs _ F' H' m' => Rep X.K F' m' (.ins c (ns ++ []) (ds ++ vs)) (.ref p) → Dn.nx σ H' := q
    have gf : Gr X.K F0 H0 m0 (upd F p (.ins (He.ga X.K c) dx fs)) H m S := by
      refine ⟨g.w.frz hp hm hF, g.up.trans (sub_upd hF), g.ext, fun a u q1 q2 q3 => ?_⟩
      obtain ⟨y1, y2, y3⟩ := g.frm a u q1 q2 q3
      exact ⟨y1, by rw [upd_ne (ne_of_none q1 h0)]; exact y2, y3⟩
    refine q' _ H m gf ?_
    simp only [Rep, List.append_nil]
    exact ⟨p, dx, fs, rfl, upd_same, e1, r1.up (sub_upd hF) Ext.refl⟩
  | cons hn he rr ih =>
    rename_i f e np ap pp sts fs0 fe es
    intro hf
    have CK := C.c.lib.cls c i hi
    have PSelf : PE X (.Name "self" np) (tVar 0) := pe_var (by rw [C.c.names]; exact hN) (by rw [C.c.sc]; exact visB_ok hv) (by decide) (by decide)
    refine PSs.imp (pss_cons (ps_fld PSelf (he X ca lev _ C.c) (notComp_sw hn)) (ih fun f hf' => hf f (List.mem_cons_of_mem _ hf'))) fun Dn σ H ⟨ρ, S, F, m, dx, fs, ns, ds, g, r, hs, hp, hF, hm, e1, r1, nd, h0, hl, q⟩ => ?_
    have q0 : Post X.K (fun c d _ H => E c d H) [] F0 H0 m0 ((fe ca ρ S).bind fun b S => (aOf es ca ρ S).bind fun ds S => .ok (b.1 :: ds) S) fun vs _ F' H' m' => Rep X.K F' m' (.ins c (ns ++ f :: fs0) (ds ++ vs)) (.ref p) → Dn.nx σ H' := q
    refine tE.ofF g.w r ?_
    cases er : fe ca ρ S with
    | no => rw [er] at q0; exact q0
    | exn x d S1 => rw [er] at q0; exact wish_sig (σ := []) (σ' := σ) (Wish.gr g (show Wish X.K (fun c d _ H => E c d H) [] F0 H0 m0 x d S1 from q0))
    | ok b S1 =>
      rw [er] at q0
      intro F1 H1 m1 g1 v rv
      have G1 := g.trans g1
      obtain ⟨k1, k2, k3⟩ := g1.frm p _ hp hF hm
      have nf : f ∉ fs.map (·.1) := by
        rw [e1]
        intro z
        exact (List.nodup_append.mp nd).2.2 f z f (List.mem_cons_self ..) rfl
      have hlen : fs.length < 1000 := by
        have : ns.length = fs.length := by rw [← e1]; simp
        simp at hl
        omega
      refine ⟨.ref p, hs, p, _, dx, fs, rfl, k1, CK.cl, CK.fld f (hf f (List.mem_cons_self ..)), hlen, ?_⟩
      rw [putF_new nf]
      refine ⟨ρ, S1, F1, m1, dx, fs ++ [(f, v)], ns ++ [f], ds ++ [b.1], G1.wr h0 k2 k3, r.gr g1, hs, upd_same, k2, k3, by simp [e1], ?_, by simpa using nd, h0, by simpa using hl, ?_⟩
      · rw [List.map_append]
        exact (r1.gr g1).append (.one rv)
      · have q1 : Post X.K (fun c d _ H => E c d H) [] F0 H0 m0 ((aOf es ca ρ S1).bind fun ds S => .ok (b.1 :: ds) S) fun vs _ F' H' m' => Rep X.K F' m' (.ins c (ns ++ f :: fs0) (ds ++ vs)) (.ref p) → Dn.nx σ H' := q0
        cases e2 : aOf es ca ρ S1 with
        | no => rw [e2] at q1; exact q1
        | exn x d S2 => rw [e2] at q1; exact q1
        | ok vs S2 =>
          rw [e2] at q1
          intro F' H' m' g' rp
          refine q1 F' H' m' g' ?_
          simpa using rp
theorem init_ok {X : Cx} {ca : Ca} {lev : Nat} {E : XK} (C : CtxS X sc N pg ca lev E) {c : Str} {i : ClI} (hi : pg.cls.lookup c = some i) (hN : N[0]? = some ("self" : Str)) (hv : visB sc "self" = true) {p : Addr} {F0 H0 Fb Hb : Hp} {m0 mb : List Addr}
    {sets : List Stmt} {flds : List Str} {es : List SE} (hs : SetsOk pg N sc sets flds es) (hf : ∀ f, f ∈ flds → f ∈ i.fs) :
    ∀ {pre : List Stmt} {pres : List SS}, PresOk pg N sc pre pres → PSs X (pre ++ sets) fun Dn σ H => tS X.K E Fb Hb mb (seqL pres ca) { nx := fun σ H => tSets X.K E c p F0 H0 m0 ca flds es Dn σ H, rt := fun _ _ => False, bk := fun _ _ => False, ct := fun _ _ => False } σ H := by
  intro pre pres h
  induction h with
  | nil =>
    refine PSs.imp (sets_ok (p := p) (F0 := F0) (H0 := H0) (m0 := m0) C hi hN hv hs hf) fun Dn σ H ⟨ρ, S, F, m, g, s, q⟩ => ?_
    exact q σ F H m g s
  | cons h r ih =>
    rename_i st sts f fs
    refine PSs.imp (pss_cons (h X ca lev E Fb Hb mb C) ih) fun Dn σ H ⟨ρ, S, F, m, g, s, q⟩ => ?_
    refine ⟨ρ, S, F, m, g, s, ?_⟩
    have q0 : PostS X.K E Fb Hb mb ((f ca ρ S).bind fun fl S => match fl with
      | .nx ρ => seqL fs ca ρ S
      | fl => .ok fl S) _ := q
    cases er : f ca ρ S with
    | no => rw [er] at q0; exact q0
    | exn x d S1 => rw [er] at q0; exact q0
    | ok fl S1 =>
      rw [er] at q0
      cases fl with
      | nx ρ1 => exact fun σ1 F1 H1 m1 g1 s1 => ⟨ρ1, S1, F1, m1, g1, s1, q0⟩
      | rt b => exact fun v F1 H1 m1 g1 rb => (q0 v F1 H1 m1 g1 rb).elim
      | bk ρ1 => exact fun σ1 F1 H1 m1 g1 s1 => (q0 σ1 F1 H1 m1 g1 s1).elim
      | ct ρ1 => exact fun σ1 F1 H1 m1 g1 s1 => (q0 σ1 F1 H1 m1 g1 s1).elim
end
theorem senv_init {K : PySem.W.Frag} {H F : Hp} {m : List Addr} {N : List Str} {ds : List D} {vs : List V} (r : RepL K F m ds vs) : SEnv K H F H m (initE N.length ds) (start N vs) := by
  have hl := r.length
  refine ⟨by unfold initE L2.start; simp [hl], fun i b hi => ?_, fun i j a b p hij h1 h2 => ?_⟩
  · unfold initE at hi
    by_cases h : i < ds.length
    · rw [List.getElem?_append_left (by simpa using h), List.getElem?_map] at hi
      cases q : ds[i]? with
      | none => rw [q] at hi; cases hi
      | some d =>
        rw [q] at hi; cases hi
        obtain ⟨v, hv, rv⟩ := r.get q
        refine ⟨v, ?_, rv⟩
        unfold L2.start
        rw [List.getElem?_append_left (by simp; omega), List.getElem?_map, hv]
        rfl
    · rw [List.getElem?_append_right (by simpa using h)] at hi
      rw [List.getElem?_replicate] at hi
      split at hi <;> cases hi
  · unfold initE at h1
    by_cases h : i < ds.length
    · rw [List.getElem?_append_left (by simpa using h), List.getElem?_map] at h1
      cases q : ds[i]? with
      | none => rw [q] at h1; cases h1
      | some d => rw [q] at h1; cases h1
    · rw [List.getElem?_append_right (by simpa using h)] at h1
      rw [List.getElem?_replicate] at h1
      split at h1 <;> cases h1
section
variable {P : Program} {w : World} {K : PySem.W.Frag} {mg : Str → Option Value} {base : Heap} {pg : Pg}
theorem ctx_of {N : List Str} {qual : Str} {scope : Scope} {f : Addr} {cdv : Value} {A : Around} {outer : List Env} {s : Shared} {H : Hp} {E : XK} {ca : Ca} {k : Nat} (nd : N.Nodup) (hr : Rm (k + pg.ex) (A.deeper (envOfC qual scope s.heap.objs.size f cdv))) (L : PgOk P w K mg base pg ca k) (hme : ∀ n, pg.me = some n → n ∈ pg.mks ∧ qual = n ∧ cdv = .ref (tbC K n)) :
    CtxS (cxOf (CX P w) P w K mg base N qual scope f cdv A outer s H E) scope N pg ca k E where
  c := { sc := rfl, names := rfl, nd := nd, calm := rfl, room2 := hr, lib := L, tk := takes_of rfl rfl rfl rfl, mker := fun n e => ⟨(hme n e).1, (by rw [← (hme n e).2.1]; rfl), (hme n e).2.2⟩ }
  fn := fun _ => rfl
  own := passes_of (K := fun e s'' => CX P w outer H s E e s'') rfl
theorem SEnv.viewI {F : Hp} {m m' : List Addr} {n : Nat} {ρ : SEn} {σ : St} {H0 H : Hp} (cut : ∀ i a, i < n → m[i]? = some a → m'[i]? = some a) (s : SEnv K H0 F H m ρ σ) : REnv K F m' (EV.viewI n ρ) σ := by
  refine ⟨by unfold EV.viewI; simp [s.len], fun i d hi => ?_⟩
  unfold EV.viewI at hi
  rw [List.getElem?_map] at hi
  cases h : ρ[i]? with
  | none => rw [h] at hi; cases hi
  | some b =>
    rw [h] at hi
    cases b with
    | none => cases hi
    | some b =>
      obtain ⟨e, o⟩ := b
      cases o with
      | true => cases hi
      | false =>
        simp only [Option.map_some, Option.some.injEq] at hi
        split at hi
        · rename_i hc
          cases hi
          obtain ⟨v, h1, h2⟩ := s.get i _ h
          exact ⟨v, h1, Rep.cut cut _ _ hc h2⟩
        · cases hi
/-- the promise of __init__ -/
theorem fnI {c : Str} {i : ClI} {ca : Ca} {k : Nat} {f : Addr} {fd : FuncData} {name qual : Str} {params : Arguments} {pre sets : List Stmt} {scope : Scope} {dvs : List V} {kws : List (Str × V)} {N : List Str} {pres : List SS} {es : List SE} (L : PgOk P w K mg base pg ca k) (hi : pg.cls.lookup c = some i)
    (FD : FunD K name qual params (pre ++ sets) scope dvs kws f fd) (SC : FnScope N ("self" :: i.ps) scope) (hv : visB scope "self" = true) (hp : PresOk pg N scope pre pres) (hs : SetsOk pg N scope sets i.fs es) (hnd : i.fs.Nodup) (hlen : i.fs.length ≤ 900) {ca' : Ca}
    (hme : pg.me = none) (hca : ∀ ds S, ca' (c, some "__init__") ds S = runI c i.fs i.ps.length N.length pres es ca ds S) : FnG P w K mg base (CX P w) (k + 1) f fd ("self" :: i.ps) (spIni K ca' c i.ps.length) := by
  refine fnG_of FD SC (fun vs H Q E h => by rw [h.1]; simp) (fun cdv A outer s H vs Q E _ hr h => ?_)
  obtain ⟨hl, H1, p, dx, args, ds, S1, F1, m, e1, e2, hp1, hd1, hne, wd, rl, q⟩ := h
  subst e1 e2
  rw [hca] at q
  unfold runI at q
  have N0 : N[0]? = some ("self" : Str) := by
    have := SC.pre
    cases N with
    | nil => simp at this
    | cons x xs => simp at this; simp [this.1]
  split at q
  · rename_i hdl
    have C := ctx_of (qual := qual) (scope := scope) (f := f) (cdv := cdv) (A := A) (outer := outer) (s := s) (H := upd (upd H1 dx (.own p)) p (.ins (He.ga K c) dx [])) (E := E) SC.nd (hr.mono (by unfold Pg.ex; rw [hme]; exact Nat.le_refl _)) L (fun n z => by rw [hme] at z; cases z)
    have w0 := enter (c := c) wd hp1 hd1 hne
    refine ⟨_, init_ok C hi N0 hv (p := p) (F0 := F1) (H0 := H1) (m0 := m) (Fb := F1) (Hb := _) (mb := m ++ [p]) hs (fun _ z => z) hp, initE N.length (.cel S1.length :: ds), S1 ++ [Cel.ob c [] []], F1, m ++ [p], Gr.refl w0, senv_init (.cons ?_ (rl.up Sub.refl ext_app)), ?_⟩
    · simp only [Rep]
      exact ⟨p, by rw [← wd.len]; simp, rfl⟩
    · cases er : seqL pres ca (initE N.length (.cel S1.length :: ds)) (S1 ++ [.ob c [] []]) with
      | no => rw [er] at q; exact q.elim
      | exn x d S2 =>
        rw [er] at q
        dsimp only at q
        split at q
        · rename_i hc
          simp only [Bool.and_eq_true] at hc
          intro dy y F' H' m' g h0 h1 h2 h3 h4
          obtain ⟨G, y1, y2, y3, cut, _⟩ := leave g wd.len hp1 hd1 hne hc.1
          have hdy : H1 dy = none := by
            cases z : H1 dy with
            | none => rfl
            | some o =>
              rw [upd_ne (ne_of_none z hp1), upd_ne (ne_of_none z hd1), z] at h0
              cases h0
          exact q dy y F' H' _ G hdy h1 (fun z => h2 (List.mem_of_mem_take z)) h3 (Rep.cut cut _ _ hc.2 h4)
        · exact q.elim
      | ok fl S2 =>
        rw [er] at q
        cases fl with
        | nx ρ =>
          dsimp only at q
          split at q
          · rename_i hc
            intro σ F' H' m' g s'
            simp only [Bool.and_eq_true] at hc
            obtain ⟨G, y1, y2, ⟨dx', y3⟩, cut, atp⟩ := leave g wd.len hp1 hd1 hne hc.1
            refine ⟨viewI S1.length ρ, S2.take S1.length, F', m'.take S1.length, dx', [], [], [], G, s'.viewI cut, ?_, y3, y1, y2, rfl, .nil, by simpa using hnd, hp1, by simpa using hlen, ?_⟩
            · have hsf := hc.2
              unfold selfAt at hsf
              split at hsf
              · rename_i j hj
                have := of_decide_eq_true hsf
                subst this
                obtain ⟨v, z1, z2⟩ := s'.get 0 _ hj
                have z2' : Rep K F' m' (.cel S1.length) v := z2
                simp only [Rep] at z2'
                obtain ⟨a, z3, rfl⟩ := z2'
                rw [atp] at z3
                cases z3
                exact z1
              · cases hsf
            · cases e2 : aOf es ca (viewI S1.length ρ) (S2.take S1.length) with
              | no => rw [e2] at q; exact q.elim
              | exn x d S3 => rw [e2] at q; exact q
              | ok us S3 =>
                rw [e2] at q
                have q1 : Post K (fun c d _ H' => E c d H') [] F1 H1 m (if us.length = i.fs.length then .ok (.ins c i.fs us, false) S3 else .no) fun b _ F' H' m' => RepB K H1 F' H' m' b (.ref p) → Q .non H' := q
                split at q1
                · exact fun F2 H2 m2 g2 rp => q1 F2 H2 m2 g2 rp
                · exact q1.elim
          · exact q.elim
        | rt b => exact q.elim
        | bk ρ => exact q.elim
        | ct ρ => exact q.elim
  · exact q.elim
end
end EV

namespace EV
open PySem PySem.Spec PyProof.Rows L2

/-! ### for .. in x[i], x one's own list of lists, which stays one's own -/
def sForIx (k : Nat) (ms : List Nat) (fi : SE) (p : Pt) (body : SS) : SS := fun ca ρ S => match ρ[k]? with
  | some (some (.lst _, true)) => (ex1 ms fi ca ρ S).bind fun r S => match r.2[k]?, r.1.1 with
    | some (some (.lst as, true)), .int i => (match atI as i with
      | some (.lst ds) => forL p (body ca) ds r.2 S
      | _ => .no)
    | _, _ => .no
  | _ => .no
section
variable {pg : Pg} {N : List Str} {sc : Scope}
theorem okForIx {x : Str} {k : Nat} {tg ie : Expr} {body : List Stmt} {ms : List Nat} {fi : SE} {p : Pt} {f : SS} {n : Nat} {np ip pos : Pos} (hk : slot? N x = some k) (hv : visB sc x = true) (hp : plainName x = true) (hsl : notSlice ie = true) (hi : OkE pg N sc ie fi) (hg : tgt (locOk N sc) n tg = some p) (hb : OkSs pg N sc body f) :
    OkS pg N sc (.For tg (.Subscript (.Name x np) ie ip) body [] pos) (sForIx k ms fi p f) := fun X ca lev E F0 H0 m0 C => by
  have PB : PSs X body (tSx X.K E (f ca)) := ⟨fun pins s σ H Dn I ⟨F0, H0, m0, q⟩ => (hb X ca lev E F0 H0 m0 C).run pins s σ H Dn I q⟩
  have PT' : PG X tg (gSx X.K p) := ⟨fun pins s σ H v u Q I rv ⟨H0, q⟩ => (stg_ok (H0 := H0) C.c.nd C.c.calm (fun x i h => loc_st C h) n tg p hg).run pins s σ H v u Q I rv q⟩
  have PX : PE X (.Name x np) (tVar k) := pe_var (by rw [C.c.names]; exact slot_ok hk) (by rw [C.c.sc]; exact visB_ok hv) (plain1 hp).1 (plain1 hp).2.1
  refine PS.imp (ps_for C.own C.c.calm (pi_list (pe_ix ix_list PX (hi X ca lev _ C.c) (plainIx_of hsl))) PT' PB (notSet_ok rfl)) fun Dn σ H ⟨ρ, S, F, m, g, s, q⟩ => ?_
  unfold sForIx at q
  split at q
  · rename_i as0 h0
    obtain ⟨q0, xs0, hq0, _, hq1, _⟩ := s.own h0
    refine ⟨.ref q0, hq0, ?_⟩
    refine stEx g s (Post.mono (postS_ex q) fun r S1 F1 H1 m1 e1 g1 q1 v s1 rv ap => ?_)
    obtain ⟨⟨di, oi⟩, ρ1⟩ := r
    dsimp only at q1 s1 rv ap
    split at q1
    · rename_i x1 x2 as i ha
      split at q1
      · rename_i ds hat
        have ei : v = .int i := by
          cases oi with
          | false =>
            have z : Rep X.K F1 m1 (.int i) v := rv
            simpa only [Rep] using z
          | true => obtain ⟨_, _, _, z, _⟩ := rv; cases z
        obtain ⟨p1, xs, y1, y2, y3, y4, y5, y6, y7⟩ := s1.own ha
        rw [hq0] at y1; cases y1
        obtain ⟨u, hu, ru⟩ := atI_rep y7 hat
        simp only [Rep] at ru
        obtain ⟨l, ys, rfl, z1, z2, z3⟩ := ru
        exact ⟨q0, xs, i, .ref l, rfl, ei, SqL.of y3, hu, l, rfl, ⟨ys, SqL.of (g1.w.sub _ _ z1)⟩, for_core g1 s1 (isIt_list (lst_stays z1) z2 z3) q1⟩
      · exact q1.elim
    · exact q1.elim
  · exact q.elim
end
/-! ### sorted -/
def tup1 : PyData → Bool
  | .tuple (_ :: _) => true
  | _ => false
def noTup : PyData → Bool
  | .tuple _ => false
  | .none => false
  | _ => true
def sortB (ds : List D) : Bool := plnL ds && (ds.all fun a => ds.all fun b => PySem.W.alike (toP a) (toP b)) && ((ds.all fun a => tup1 (toP a)) || (ds.all fun a => noTup (toP a))) && (ds.all flatD)
def leD : D → D → Bool := PySem.W.dataLe false toP
def bSorted (_ : Cells) : List D → Option B
  | [.lst ds] => if sortB ds then some (.lst (ds.mergeSort leD), true) else none
  | _ => none
theorem each_of {K : PySem.W.Frag} {F : Hp} {m : List Addr} : ∀ {ds : List D} {vs : List V} {us : List Value}, RepL K F m ds vs → Vals vs us → PySem.W.EachIs (fun u d => ∃ x, RelV x u ∧ Rep K F m d x) us ds
  | [], vs, us, r, h => by
    simp only [RepL] at r
    subst r
    cases h
    exact .nil
  | d :: ds, vs, us, r, h => by
    simp only [RepL] at r
    obtain ⟨x, xs, rfl, r1, r2⟩ := r
    cases h with
    | cons h1 h2 => exact .cons ⟨x, h1, r1⟩ (each_of r2 h2)
theorem of_each {K : PySem.W.Frag} {F : Hp} {m : List Addr} : ∀ {ds : List D} {us : List Value}, PySem.W.EachIs (fun u d => ∃ x, RelV x u ∧ Rep K F m d x) us ds → ∃ vs, RepL K F m ds vs ∧ Vals vs us
  | _, _, .nil => ⟨[], .nil, .nil⟩
  | _, _, .cons ⟨x, h1, h2⟩ t => by
    obtain ⟨vs, r, h⟩ := of_each t
    exact ⟨x :: vs, .cons h2 r, .cons h1 h⟩
theorem plnL_mem : ∀ {ds : List D} {d : D}, plnL ds = true → d ∈ ds → pln d = true
  | [], d, _, h => by cases h
  | e :: ds, d, p, h => by
    simp only [plnL, Bool.and_eq_true] at p
    rcases List.mem_cons.mp h with rfl | h
    · exact p.1
    · exact plnL_mem p.2 h
theorem each_with {α β : Type} {R R2 : α → β → Prop} {P : β → Prop} : ∀ {as : List α} {bs : List β}, PySem.W.EachIs R as bs → (∀ b, b ∈ bs → P b) → (∀ a b, R a b → P b → R2 a b) → PySem.W.EachIs R2 as bs
  | _, _, .nil, _, _ => .nil
  | _, _, .cons h t, hp, k => .cons (k _ _ h (hp _ (List.mem_cons_self ..))) (each_with t (fun b hb => hp b (List.mem_cons_of_mem _ hb)) k)
theorem crSorted {X : Cx} (hc : X.calm = true) (rm : Rm 0 X.A) : CallR X (.builtin "sorted") (rDn X.K bSorted) := by
  intro pins s σ H vs us Q I r h
  obtain ⟨F, m, S, ds0, b, w, rl, he, o⟩ := h
  unfold bSorted at he
  split at he
  · rename_i ds
    split at he
    · rename_i hs
      cases he
      obtain ⟨x, rfl, rx⟩ := rl.one'
      simp only [Rep] at rx
      obtain ⟨a, xs, rfl, h1, h2, h3⟩ := rx
      obtain ⟨u, rfl, ru⟩ := vals1 r
      obtain rfl : u = Value.ref a := ru
      obtain ⟨its, rv, hl, hz⟩ := I.list (SqL.of (w.sub _ _ h1))
      unfold sortB at hs
      simp only [Bool.and_eq_true] at hs
      obtain ⟨⟨⟨s1, s2⟩, s3⟩, s4⟩ := hs
      have e0 := each_of h3 rv
      have er : PySem.W.EachIs (fun v b => ∃ as, Reads s.heap v (toP b) as) its ds := each_with e0 (fun d hd => plnL_mem s1 hd) fun u d ⟨y, ry, rd⟩ hp => Dp.reads I _ y u (Dp.of w.sub d y hp rd) ry
      have lds : ds.length = xs.length := h3.length
      refine PySem.W.sorted_data (R := fun u d => ∃ x, RelV x u ∧ Rep X.K F m d x) (bs := ds) (enc := toP) hl.isList e0 er ?_ ?_ (by rw [lds]; exact h2) ?_ fun out hlen hout => ?_
      · intro d hd d' hd'
        obtain ⟨b, hb, rfl⟩ := List.mem_map.mp hd
        obtain ⟨b', hb', rfl⟩ := List.mem_map.mp hd'
        exact List.all_eq_true.mp (List.all_eq_true.mp s2 b hb) b' hb'
      · simp only [Bool.or_eq_true] at s3
        rcases s3 with s3 | s3
        · refine .inl fun d hd => ?_
          obtain ⟨b, hb, rfl⟩ := List.mem_map.mp hd
          have := List.all_eq_true.mp s3 b hb
          cases q : toP b <;> rw [q] at this <;> first | cases this | skip
          rename_i l
          cases l with
          | nil => cases this
          | cons y l => exact ⟨y, l, rfl⟩
        · refine .inr fun d hd => ?_
          obtain ⟨b, hb, rfl⟩ := List.mem_map.mp hd
          have := List.all_eq_true.mp s3 b hb
          constructor
          · intro z
            rw [z] at this
            cases this
          · intro l z
            rw [z] at this
            cases this
      · intro b hb
        have := List.all_eq_true.mp s4 b hb
        simp only [flatD, decide_eq_true_eq] at this
        have := rm.rm.un
        omega
      · obtain ⟨ys, ry, hv⟩ := of_each hout
        obtain ⟨n, hn⟩ := sortedAll_at s.heap its out.toArray
        have ly : ys.length ≤ sizeLine := by rw [← ry.length, List.length_mergeSort, lds]; exact h2
        refine ⟨.ref _, upd H _ (.lst ys), I.laid (t' := s.toks) (fun b o e => sortedAll_old e) (Nat.le_succ _) ⟨ly, out, n, hv, hn⟩, rfl, Outs.lst w o ry ly _ (I.hok.fresh (Nat.le_succ _))⟩
    · cases he
  · cases he
/-! ### list.index, list.count -/
def shpB (d : D) : Bool := SeqAt.shaped (toP d)
def gIndex (_ : Cells) (d : D) (es : List D) : Option B := match d, es with
  | .lst ds, [e] => if plnL ds && pln e && SeqAt.shaped (.list (toPL ds)) && shpB e then (match ds.findIdx? (fun z => eqS z e) with
    | some j => bI j
    | none => none) else none
  | _, _ => none
theorem toPL_get : ∀ (ds : List D) (i : Nat), (toPL ds)[i]? = (ds[i]?).map toP
  | [], i => by simp [toPL]
  | d :: ds, 0 => by simp [toPL]
  | d :: ds, i + 1 => by simp [toPL, toPL_get ds i]
theorem mtIndex {X : Cx} (hc : X.calm = true) (rm : Rm 0 X.A) : MtR X "list.index" (rDm X.K gIndex) := by
  have hu : X.A.units + 65 < cLine := by have := rm.rm.un; omega
  intro pins s σ H x xs v us Q I rx rs h
  refine mt_indexD hu pins s σ H x xs v us Q I rx rs ?_
  obtain ⟨F, m, S, d, es, b, w, r1, r2, he, o⟩ := h
  unfold gIndex at he
  split at he
  · rename_i ds e
    split at he
    · rename_i hc
      simp only [Bool.and_eq_true] at hc
      split at he
      · rename_i j hj
        cases he
        obtain ⟨y, rfl, ry⟩ := r2.one'
        have D1 := Dp.of w.sub (.lst ds) x (by simp only [pln]; exact hc.1.1.1) r1
        simp only [toP] at D1
        have r1' := r1
        simp only [Rep] at r1'
        obtain ⟨a, zs, rfl, _⟩ := r1'
        obtain ⟨g1, g2, g3⟩ := List.findIdx?_eq_some_iff_getElem.mp hj
        refine ⟨a, y, toP e, toPL ds, j, toP ds[j], rfl, rfl, D1, Dp.of w.sub e y hc.1.1.2 ry, hc.1.2, hc.2, by rw [toPL_get]; simp [g1], g2, fun k z hk hz => ?_, o.val w (rep_int _)⟩
        rw [toPL_get, List.getElem?_eq_getElem (by omega)] at hz
        cases hz
        have := g3 k hk
        simpa [eqS] using this
      · cases he
    · cases he
  · cases he
def intsD : List D → Option (List Int)
  | [] => some []
  | .int b :: ds => (intsD ds).map (b :: ·)
  | _ :: _ => none
theorem intsD_ok {K : PySem.W.Frag} {F : Hp} {m : List Addr} : ∀ {ds : List D} {bs : List Int} {xs : List V}, intsD ds = some bs → RepL K F m ds xs → xs = bs.map V.int
  | [], bs, xs, h, r => by simp only [intsD] at h; cases h; simp only [RepL] at r; subst r; rfl
  | d :: ds, bs, xs, h, r => by
    simp only [RepL] at r
    obtain ⟨x, ys, rfl, r1, r2⟩ := r
    cases d with
    | int b =>
      simp only [intsD] at h
      cases e : intsD ds with
      | none => rw [e] at h; cases h
      | some cs =>
        rw [e] at h; cases h
        simp only [Rep] at r1
        subst r1
        rw [intsD_ok e r2]; rfl
    | _ => simp only [intsD] at h; cases h
def gCount (_ : Cells) (d : D) (es : List D) : Option B := match d, es with
  | .lst ds, [.int k] => (match intsD ds with
    | some ns => bI (ns.count k : Nat)
    | none => none)
  | _, _ => none
theorem mtCount {X : Cx} (hc : X.calm = true) (rm : Rm 0 X.A) : MtR X "list.count" (rDm X.K gCount) := by
  intro pins s σ H x xs v us Q I rx rs h
  refine mt_lcount pins s σ H x xs v us Q I rx rs ?_
  obtain ⟨F, m, S, d, es, b, w, r1, r2, he, o⟩ := h
  unfold gCount at he
  split at he
  · rename_i ds k
    split at he
    · rename_i ns hn
      cases he
      obtain ⟨y, rfl, ry⟩ := r2.one'
      simp only [Rep] at r1 ry
      obtain ⟨a, zs, rfl, q1, q2, q3⟩ := r1
      have := intsD_ok hn q3
      subst this ry
      exact ⟨a, ns, k, rfl, rfl, SqL.of (w.sub _ _ q1), o.val w (rep_int _)⟩
    · cases he
  · cases he
end EV

namespace EV
open PySem PySem.Spec PyProof.Rows L2 PySem.Calls Builtin
/-! ### isinstance with an own class; ==, !=, in by own methods -/
theorem tyD_all {d : D} {a : String} (h : tyD d = some a) : a ∈ tyAll := tyD_in h
def gIsC (c : Str) (_ : Cells) (d : D) : Option B := match d with
  | .ins c' _ _ => if c' == c then bB true else none
  | d => match tyD d with
    | some _ => bB false
    | none => none
/-- a def run within an operation, at the same place -/
theorem run_at0 {X : Cx} {k : Nat} {f : Addr} {fd : FuncData} {ps : List Str} {sp : Sp} {dvs : List V} {ds : List Value} {pins : List (Addr × Obj)} {σ : St} {H : Hp} {s : Shared} {Q : VK} {us : List Value} {vs : List V} {E' : Value → Shared → Prop}
    (F : FnG X.prog X.w X.K X.mg X.base (CX X.prog X.w) k f fd ps sp) (hr : Rm k X.A) (hb : Binds X.K fd ps ds) (hd : Vals dvs ds) (I : Inv X pins σ H s) (r : Vals vs us)
    (h : sp (vs ++ dvs) H Q fun _ _ _ => False) : wpAny (model X.prog X.w) X.A (call (.ref f) us) (EP X pins σ Q) E' s := by
  have r2 : Vals (vs ++ dvs) (us ++ ds) := r.append hd
  have hl : (us ++ ds).length = ps.length := r2.length ▸ F.len _ _ _ _ h
  have z := F.run X.A X.stack s H ⟨us, []⟩ (us ++ ds) (vs ++ dvs) Q _ hr I.env0 (hb s us I.kIn hl) r2 h
  refine wpAny_call (codeAny_mono z fun e s' hq => ?_)
  cases e with
  | error e =>
    obtain ⟨_, _, _, _, _, _, _, _, _, _, _, _, y⟩ := hq
    exact y.elim
  | ok fl =>
    cases fl with
    | ret u => exact I.after hq
    | next => exact hq.elim
    | brk => exact hq.elim
    | cont => exact hq.elim
def ownZ (c : Str) (z : D) : Bool := match z with
  | .ins c' _ _ => c' == c
  | z => (tyD z).isSome
def blR (neg : Bool) : R B → R B
  | .ok (.bl r, false) S => .ok (.bl (r != neg), false) S
  | _ => .no
def eqR (pg : Pg) (neg : Bool) (ca : Ca) (x y : D) (S : Cells) : R B := match mtOk pg "__eq__" 2 x with
  | some (c, dfl) => if ownZ c y then blR neg (ca (c, some "__eq__") (x :: y :: dfl) S) else .no
  | none => .no
def inR (pg : Pg) (neg : Bool) (ca : Ca) (x y : D) (S : Cells) : R B := match mtOk pg "__contains__" 2 y with
  | some (c, dfl) => blR neg (ca (c, some "__contains__") (y :: x :: dfl) S)
  | none => .no
/-- op by an own method -/
def ownG (pg : Pg) (op : CmpOp) : Option (Ca → D → D → Cells → R B) := match op with
  | .Eq => some (eqR pg false)
  | .NotEq => some (eqR pg true)
  | .In => some (inR pg false)
  | .NotIn => some (inR pg true)
  | _ => none
def cOwn (g : Ca → D → D → Cells → R B) (fa fb : SE) : SE := fun ca ρ S => (fa ca ρ S).bind fun a S => (fb ca ρ S).bind fun b S => g ca a.1 b.1 S
/-- what is wanted of the heap -/
def rOwnM (X : Cx) (pg : Pg) (ca : Ca) (nm : Str) (neg : Bool) (o z : V) (H : Hp) (Q : VK) (T : Str → Prop) : Prop := ∃ (c : Str) (i : ClI) (fi : FnI) (p dx : Addr) (fs : List (Str × V)), o = .ref p ∧ H p = some (.ins (He.ga X.K c) dx fs) ∧ pg.cls.lookup c = some i ∧ i.mts.lookup nm = some fi ∧
  2 + fi.dfl.length ≥ fi.ps.length ∧ 2 ≤ fi.ps.length ∧ T c ∧ ∀ dvs, (∀ F m, RepL X.K F m (fi.dfl.drop (2 + fi.dfl.length - fi.ps.length)) dvs) → spOf X.K ca (c, some nm) fi.ps.length ([.ref p, z] ++ dvs) H (fun v H2 => ∃ r : Bool, v = .bl r ∧ Q (.bl (r != neg)) H2) fun _ _ _ => False
def rOwnE (X : Cx) (pg : Pg) (ca : Ca) (neg : Bool) : R2 := fun x y H Q => rOwnM X pg ca "__eq__" neg x y H Q fun c => ∃ t, TyX X.K H y t ∧ PySem.W.notFirst X.K (He.ga X.K c) t = true
def rOwnI (X : Cx) (pg : Pg) (ca : Ca) (neg : Bool) : R2 := fun x y H Q => rOwnM X pg ca "__contains__" neg y x H Q fun _ => True
section
variable {pg : Pg} {N : List Str} {sc : Scope}
theorem opOwnE {X : Cx} {ca : Ca} {lev : Nat} {W : WX} (C : Ctx X sc N pg ca lev W) (neg : Bool) : OpR X (compareOp (if neg then .NotEq else .Eq)) (rOwnE X pg ca neg) := by
  intro pins s σ H x y v u Q I rx ry h
  obtain ⟨c, i, fi, p, dx, fs, rfl, ea, hi, hf, n1, n2, ⟨t, ty, nf⟩, hsp⟩ := h
  obtain ⟨f, fd, j, M, hj, G, hb⟩ := (C.lib.cls c i hi).mt _ fi hf
  have CM := (C.lib.cls c i hi).cmp
  obtain ⟨dvs, ds, rv, bn, rd⟩ := hb 2 n1 n2
  obtain rfl : v = Value.ref p := rx
  obtain ⟨mA, O, _, _, _, _⟩ := ins_get I.hok ea
  obtain ⟨od, J, _⟩ := O.look
  obtain ⟨P, Z, pp, _⟩ := kit_of I ry ty
  have hbL := Z.ty (model X.prog X.w) s.heap I.kIn pp
  obtain ⟨m, hF⟩ := I.fr
  cases neg with
  | false =>
    show wpAny _ _ (richCompare .Eq _ _) _ _ _
    have z := run_at0 (E' := X.xe) G (C.room.mono (by omega)) bn rv I (us := [.ref p, u]) (vs := [.ref p, y]) (.cons rfl (.cons ry .nil)) (hsp dvs rd)
    refine PySem.W.cmp_K (op := .Eq) C.room.rm.units0 hF I.ok.mod.kin J hbL nf M.at_ M.fn (wpAny_mono z (fun w s' hw => ?_) fun _ _ y => y)
    obtain ⟨v, H', I', ru, r, rfl, q⟩ := hw
    obtain rfl : w = Value.bool r := ru
    exact ⟨.bl r, H', I', rfl, by simpa using q⟩
  | true =>
    show wpAny _ _ (richCompare .NotEq _ _) _ _ _
    have z := run_in1 (E' := X.xe) G (C.room.mono hj) bn rv I (us := [.ref p, u]) (vs := [.ref p, y]) (.cons rfl (.cons ry .nil)) (hsp dvs rd)
    refine EVX.ne_K (by have := C.room.rm.un; omega) I.kIn J hbL nf CM.ne M.at_ M.fn CM.ob (wpAny_mono z (fun w s' hw => ?_) fun _ _ y => y)
    obtain ⟨v, H', I', ru, r, rfl, q⟩ := hw
    obtain rfl : w = Value.bool r := ru
    exact ⟨r, rfl, .bl (!r), H', I', rfl, by simpa using q⟩
theorem opOwnI {X : Cx} {ca : Ca} {lev : Nat} {W : WX} (C : Ctx X sc N pg ca lev W) (neg : Bool) : OpR X (compareOp (if neg then .NotIn else .In)) (rOwnI X pg ca neg) := by
  intro pins s σ H x y v u Q I rx ry h
  obtain ⟨c, i, fi, p, dx, fs, rfl, ea, hi, hf, n1, n2, _, hsp⟩ := h
  obtain ⟨f, fd, j, M, hj, G, hb⟩ := (C.lib.cls c i hi).mt _ fi hf
  obtain ⟨dvs, ds, rv, bn, rd⟩ := hb 2 n1 n2
  obtain rfl : u = Value.ref p := ry
  obtain ⟨mA, O, _, _, _, _⟩ := ins_get I.hok ea
  obtain ⟨od, J, _⟩ := O.look
  obtain ⟨m, hF⟩ := I.fr
  have z := run_at0 (E' := X.xe) G (C.room.mono (by omega)) bn rv I (us := [.ref p, v]) (vs := [.ref p, x]) (.cons rfl (.cons rx .nil)) (hsp dvs rd)
  cases neg with
  | false =>
    refine PySem.W.in_K hF I.ok.mod.kin J M.at_ M.fn (wpAny_mono z (fun w s' hw => ?_) fun _ _ y => y)
    obtain ⟨v, H', I', ru, r, rfl, q⟩ := hw
    obtain rfl : w = Value.bool r := ru
    exact wpAny_truthy_bool ⟨.bl r, H', I', rfl, by simpa using q⟩
  | true =>
    refine PySem.W.notIn_K hF I.ok.mod.kin J M.at_ M.fn (wpAny_mono z (fun w s' hw => ?_) fun _ _ y => y)
    obtain ⟨v, H', I', ru, r, rfl, q⟩ := hw
    obtain rfl : w = Value.bool r := ru
    exact wpAny_truthy_bool ⟨.bl (!r), H', I', rfl, by simpa using q⟩
end
end EV

namespace EV
open PySem PySem.Spec PyProof.Rows L2 PySem.Calls Builtin
/-! ### len(set(e)), e a tuple of ints and texts -/
def dKey : D → Option Key
  | .int i => some (.inl i)
  | .str x => some (.inr x)
  | _ => none
def dKeys : List D → Option (List Key)
  | [] => some []
  | d :: ds => match dKey d, dKeys ds with
    | some k, some ks => some (k :: ks)
    | _, _ => none
def gSetN (_ : Cells) : D → Option B
  | .tup ds => if ds.length < 4000 then (match dKeys ds with
    | some ks => some (.int (EVX.dn ks.reverse), false)
    | none => none) else none
  | _ => none
theorem keys_vals {K : PySem.W.Frag} {F : Hp} {m : List Addr} : ∀ {ds : List D} {ks : List Key} {xs : List V}, dKeys ds = some ks → RepL K F m ds xs → xs = ks.map kV
  | [], ks, xs, h, r => by
    cases h
    cases xs with
    | nil => rfl
    | cons x xs => simp [RepL] at r
  | d :: ds, ks, xs, h, r => by
    unfold dKeys at h
    split at h
    · rename_i k ks' h1 h2
      cases h
      simp only [RepL] at r
      obtain ⟨x, xs2, rfl, r1, r2⟩ := r
      have e2 := keys_vals h2 r2
      have e1 : x = kV k := by
        cases d <;> simp only [dKey] at h1 <;> cases h1 <;> simp only [Rep] at r1
        · exact r1
        · exact r1.1
      rw [e1, e2]
      rfl
    · cases h
theorem dKeys_len : ∀ {ds : List D} {ks : List Key}, dKeys ds = some ks → ks.length = ds.length
  | [], ks, h => by cases h; rfl
  | d :: ds, ks, h => by
    unfold dKeys at h
    split at h
    · rename_i k ks' h1 h2
      cases h
      simp [dKeys_len h2]
    · cases h
section
variable {pg : Pg} {N : List Str} {sc : Scope}
theorem okSetN {e : Expr} {p p2 q pos : Pos} {f : SE} (hg : glB sc "len" = true) (hb : ("len" : Str) ∈ pg.blts) (hg2 : glB sc "set" = true) (hb2 : ("set" : Str) ∈ pg.blts) (hs : noStar e = true) (h : OkE pg N sc e f) :
    OkE pg N sc (.Call (.Name "len" p) [.Call (.Name "set" p2) [e] [] q] [] pos) (cOp1 gSetN f) := fun X ca lev W C => by
  refine ⟨fun pins s σ H Q I h0 => ?_⟩
  have h0 := op1_pre h0
  refine Call_ (ld_blt I (C.gl hg) (C.lib.blt _ hb) boot_len (PyProof.Rows.callWith_builtin1 (PyProof.Rows.args_cons (Call_ (ld_blt I (C.gl hg2) (C.lib.blt _ hb2) boot_set ?_)) rfl) rfl rfl))
  refine PyProof.Rows.callWith_type1 (PyProof.Rows.args_cons (thn ((h X ca lev W C).run pins s σ H _ I h0) fun v s1 ⟨x, H1, I1, r1, q1⟩ => PyProof.Rows.args_nil ?_) (starEach_cons hs)) (starEach_cons hs) rfl
  obtain ⟨F, m, S, d, bb, w, r, e, o⟩ := q1
  unfold gSetN at e
  split at e
  · rename_i ds
    split at e
    · rename_i hlt
      split at e
      · rename_i ks hk
        cases e
        simp only [Rep] at r
        obtain ⟨l, xs, rfl, hq, _, rl⟩ := r
        have ex := keys_vals hk rl
        subst ex
        have lk := dKeys_len hk
        cases r1
        obtain ⟨its, rv, pl, hz⟩ := I1.tuple (SqT.sub w.sub hq)
        have len : ks.length = its.length := by rw [← rv.length, List.length_map]
        refine EVX.set_tup (xs := ks) (I1.ok.hd C.calm) pl (fun i v hv => ?_) (by simp [len]) (by simp only [List.size_toArray]; unfold scanBound; omega) fun h' tk new k => PyProof.Rows.args_nil ?_
        · have hv' : its[i]? = some v := by simpa using hv
          have hi : i < ks.length := by
            rw [len]
            exact (List.getElem?_eq_some_iff.mp hv').1
          obtain ⟨w2, hw, rr⟩ := rv.get (i := i) (x := kV ks[i]) (by simp [hi])
          rw [hv'] at hw
          cases hw
          exact ⟨ks[i], List.getElem?_eq_getElem hi, rr⟩
        · have I2 : Inv X pins σ H1 { s1 with heap := h', toks := tk } := I1.kept fun b o e => k b o e
          have new2 := new
          obtain ⟨ob, es, ep, t, ho, hex, hd, _, _, _, hf, hn⟩ := new2
          have hle := EVX.dn_le ks.reverse
          rw [List.length_reverse] at hle
          refine call_len_set ho hex hd hf (by rw [hn]; omega) ⟨.int (EVX.dn ks.reverse), H1, I2.tok _, ⟨_, by rw [hn]⟩, o.val w (rep_int _)⟩
      · cases e
    · cases e
  · cases e
end
end EV

namespace EV
open PySem PySem.Spec PyProof.Rows L2 PySem.Calls Builtin
/-! ### a.join(b); isinstance with an own class -/
def dStrs : List D → Option (List Str)
  | [] => some []
  | .str x :: ds => match dStrs ds with
    | some xs => some (x :: xs)
    | none => none
  | _ => none
def joinG (a : Str) (ds : List D) : Option B := match dStrs ds with
  | some ys => if decide ((ys.map (·.length)).sum + ys.length * a.length ≤ 16777216) && decide ((Txt.join a ys).length ≤ 16777216) && cpOk (Txt.join a ys) then some (.str (Txt.join a ys), false) else none
  | none => none
def gJoin (_ : Cells) (d : D) (ds : List D) : Option B := match d, ds with
  | .str a, [.tup ys] => joinG a ys
  | .str a, [.lst ys] => joinG a ys
  | _, _ => none
theorem dStrs_vals {K : PySem.W.Frag} {F : Hp} {m : List Addr} : ∀ {ds : List D} {ys : List Str} {xs : List V}, dStrs ds = some ys → RepL K F m ds xs → xs = ys.map V.str
  | [], ys, xs, h, r => by
    cases h
    cases xs with
    | nil => rfl
    | cons x xs => simp [RepL] at r
  | d :: ds, ys, xs, h, r => by
    cases d with
    | str x =>
      simp only [dStrs] at h
      split at h
      · rename_i ys' h2
        cases h
        simp only [RepL] at r
        obtain ⟨y, xs2, rfl, r1, r2⟩ := r
        have e2 := dStrs_vals h2 r2
        simp only [Rep] at r1
        rw [r1.1, e2]
        rfl
      · cases h
    | _ => cases h
theorem mtJoin {X : Cx} : MtR X "str.join" (rDm X.K gJoin) := by
  intro pins s σ H x xs v us Q I rx rs h
  obtain ⟨F, m, S, d, ds, b, w, r, rl, e, o⟩ := h
  have fin : ∀ (a : Str) (p : Addr) (ys : List D) (vs : List V), x = .str a → xs = [.ref p] → (SqL X.K H p vs ∨ SqT X.K H p vs) → RepL X.K F m ys vs → joinG a ys = some b → wpAny (model X.prog X.w) X.A (call (.builtin "str.join") (v :: us)) (EP X pins σ Q) X.xe s := fun a p ys vs ex exs hp rv ej => by
    unfold joinG at ej
    split at ej
    · rename_i zs hz
      split at ej
      · rename_i hc
        simp only [Bool.and_eq_true, decide_eq_true_eq] at hc
        cases ej
        have ev := dStrs_vals hz rv
        subst ev
        exact mt_join pins s σ H x xs v us Q I rx rs ⟨a, p, zs, ex, exs, hp, hc.1.1, o.val w (by simp only [Rep]; exact ⟨trivial, hc.1.2, hc.2⟩)⟩
      · cases ej
    · cases ej
  unfold gJoin at e
  split at e
  · rename_i a ys
    simp only [Rep] at r
    obtain ⟨z, rfl, rz⟩ := rl.one'
    simp only [Rep] at rz
    obtain ⟨p, vs, rfl, q, _, rv⟩ := rz
    exact fin a p ys vs r.1 rfl (.inr (SqT.sub w.sub q)) rv e
  · rename_i a ys
    simp only [Rep] at r
    obtain ⟨z, rfl, rz⟩ := rl.one'
    simp only [Rep] at rz
    obtain ⟨p, vs, rfl, q, _, rv⟩ := rz
    exact fin a p ys vs r.1 rfl (.inl (SqL.of (w.sub _ _ q))) rv e
  · cases e
section
variable {pg : Pg} {N : List Str} {sc : Scope}
theorem okIsC {c : Str} {i : ClI} {e : Expr} {p p2 pos : Pos} {f : SE} (hi : pg.cls.lookup c = some i) (hg : glB sc "isinstance" = true) (hb : pg.blts.contains "isinstance" = true) (hgc : glB sc c = true) (hpc : plainName c = true) (hs : noStar e = true) (h : OkE pg N sc e f) :
    OkE pg N sc (.Call (.Name "isinstance" p) [e, .Name c p2] [] pos) (cOp1 (gIsC c) f) := fun X ca lev W C => by
  have CK := C.lib.cls c i hi
  refine PE.imp (pe_callB call_isi (C.gl hg) (C.lib.blt _ (List.contains_iff_mem.mp hb)) (by boot_by_name) (pa_cons (h X ca lev W C) (pa_cons (pe_glob (C.gl hgc) CK.mgC (show RelV (.ref (He.ga X.K c)) (.ref (He.ga X.K c)) from rfl) (plain1 hpc).1) pa_nil rfl) (starEach_cons hs)) (by decide) (by decide) (starEach_cons hs) rfl) fun σ H Q q => ?_
  refine (op1_pre q).monoQ fun x H1 q1 => ?_
  obtain ⟨F, m, S, d, b, w, r, e, o⟩ := q1
  unfold gIsC at e
  split at e
  · rename_i c' ns vs
    split at e
    · rename_i hc
      have := eq_of_beq hc
      subst this
      cases e
      simp only [Rep] at r
      obtain ⟨p, dx, fs, rfl, h1, h2, h3⟩ := r
      exact ⟨.ref p, .ref (He.ga X.K c'), .ref (He.ga X.K c'), .ref (He.ga X.K c'), true, rfl, .own _, .base (.ins (w.sub _ _ h1) CK.cl CK.cmp.ca CK.cmp.cg CK.cmp.ct CK.cmp.ob), by unfold PySem.W.kitOne; rw [if_pos (beq_self_eq_true _)], o.val w (rep_bl _)⟩
    · cases e
  · split at e
    · rename_i a ha
      cases e
      exact ⟨x, .ref (He.ga X.K c), .type a, .ref (He.ga X.K c), false, rfl, .own _, tyX_of w.sub r ha, CK.cmp.ty a (tyD_all ha), o.val w (rep_bl _)⟩
    · cases e
/-- what own methods want, from what is computed -/
theorem own_pre {X : Cx} {ca : Ca} {lev : Nat} {W : WX} (C : Ctx X sc N pg ca lev W) {nm c : Str} {dfl : List D} {neg : Bool} {x z : D} {vo vz : V} {σ : St} {S : Cells} {F H H0 : Hp} {m : List Addr} {Q : VK} {T : Str → Prop} (hm : mtOk pg nm 2 x = some (c, dfl)) (hT : T c) (w : Wd X.K F H m S) (hH : ∀ p, H p = none → H0 p = none)
    (rx : Rep X.K F m x vo) (rz : Rep X.K F m z vz) (q : Post X.K W σ F H m (blR neg (ca (c, some nm) (x :: z :: dfl) S)) fun b _ F' H' m' => ∀ v, RepB X.K H0 F' H' m' b v → Q v H') : rOwnM X pg ca nm neg vo vz H Q T := by
  obtain ⟨ns, vs, i, fi, hd, hi, hfi, hnm, hn1, hn2, hdfl⟩ := mtOk_in hm
  have rv := rx
  rw [hd] at rv
  simp only [Rep] at rv
  obtain ⟨p, dx, fs, rfl, h1, h2, h3⟩ := rv
  refine ⟨c, i, fi, p, dx, fs, rfl, w.sub _ _ h1, hi, hfi, hn1, hn2, hT, fun dvs rd => ?_⟩
  rw [← hdfl] at rd
  have l3 := (rd F m).length
  have l4 : dfl.length = fi.dfl.length - (2 + fi.dfl.length - fi.ps.length) := by rw [hdfl, List.length_drop]
  refine ⟨by rw [List.length_append]; simp; omega, x :: z :: dfl, S, F, m, w, (RepL.cons rx (RepL.one rz)).append (rd F m), ?_⟩
  cases ec : ca (c, some nm) (x :: z :: dfl) S with
  | no => rw [ec] at q; exact q.elim
  | exn c d S1 => rw [ec] at q; exact q.elim
  | ok b S2 =>
    rw [ec] at q
    obtain ⟨y, o2⟩ := b
    cases y with
    | bl r =>
      cases o2 with
      | true => exact q.elim
      | false =>
        have q3 : Post X.K W σ F H m (.ok (.bl (r != neg), false) S2) (fun b _ F' H' m' => ∀ v, RepB X.K H0 F' H' m' b v → Q v H') := q
        intro F2 H2 m2 g2 v2 r2
        have r2' : Rep X.K F2 m2 (.bl r) v2 := r2
        simp only [Rep] at r2'
        subst r2'
        exact ⟨r, rfl, q3 F2 H2 m2 g2 (.bl (r != neg)) (show Rep X.K F2 m2 (.bl (r != neg)) (.bl (r != neg)) from rep_bl _)⟩
    | _ => exact q.elim
theorem own2_pre {X : Cx} {ca : Ca} {lev : Nat} {W : WX} (C : Ctx X sc N pg ca lev W) {fa fb : SE} {σ : St} {H : Hp} {Q : VK} {neg : Bool} :
    (tE X.K W (cOwn (eqR pg neg) fa fb ca) σ H Q → tOp (rOwnE X pg ca neg) (tE X.K W (fa ca)) (tE X.K W (fb ca)) σ H Q) ∧ (tE X.K W (cOwn (inR pg neg) fa fb ca) σ H Q → tOp (rOwnI X pg ca neg) (tE X.K W (fa ca)) (tE X.K W (fb ca)) σ H Q) := by
  refine ⟨fun h => ?_, fun h => ?_⟩
  · obtain ⟨ρ, S, F, m, w, r, q⟩ := h
    refine tE.ofF w r (Post.mono (Post.bind q) fun b S1 F1 H1 m1 e1 g1 q1 x rx => ?_)
    refine tE.ofF g1.w (r.gr g1) (Post.mono (Post.bind q1) fun b2 S2 F2 H2 m2 e2 g2 q2 y ry => ?_)
    unfold eqR at q2
    split at q2
    · rename_i c dfl hm
      split at q2
      · rename_i hz
        obtain ⟨_, _, i, fi, _, hi, _, _, _, _, _⟩ := mtOk_in hm
        have CK := C.lib.cls c i hi
        refine own_pre C hm ?_ g2.w (fun p h0 => (g1.trans g2).fresh h0) (rx.gr g2) ry q2
        obtain ⟨z, o⟩ := b2
        unfold ownZ at hz
        split at hz
        · rename_i c' ns vs ez
          have ec := eq_of_beq hz
          subst ec
          have ry' : Rep X.K F2 m2 (.ins c' ns vs) y := by rw [← ez]; exact ry
          simp only [Rep] at ry'
          obtain ⟨p, dx, fs, rfl, h1, h2, h3⟩ := ry'
          exact ⟨.ref (He.ga X.K c'), .base (.ins (g2.w.sub _ _ h1) CK.cl CK.cmp.ca CK.cmp.cg CK.cmp.ct CK.cmp.ob), by simp [PySem.W.notFirst]⟩
        · obtain ⟨a, ha⟩ := Option.isSome_iff_exists.mp hz
          exact ⟨.type a, tyX_of g2.w.sub ry ha, CK.cmp.nf a (tyD_all ha)⟩
      · exact q2.elim
    · exact q2.elim
  · obtain ⟨ρ, S, F, m, w, r, q⟩ := h
    refine tE.ofF w r (Post.mono (Post.bind q) fun b S1 F1 H1 m1 e1 g1 q1 x rx => ?_)
    refine tE.ofF g1.w (r.gr g1) (Post.mono (Post.bind q1) fun b2 S2 F2 H2 m2 e2 g2 q2 y ry => ?_)
    unfold inR at q2
    split at q2
    · rename_i c dfl hm
      exact own_pre C hm trivial g2.w (fun p h0 => (g1.trans g2).fresh h0) ry (rx.gr g2) q2
    · exact q2.elim
theorem okOwn {a b : Expr} {op : CmpOp} {pos : Pos} {g : Ca → D → D → Cells → R B} {fa fb : SE} (ho : ownG pg op = some g) (hm : behindInMarks op b = false) (ha : OkE pg N sc a fa) (hb : OkE pg N sc b fb) :
    OkE pg N sc (.Compare a [op] [b] pos) (cOwn g fa fb) ∧ OkT pg N sc (.Compare a [op] [b] pos) (tBl (cOwn g fa fb)) := by
  cases op <;> cases ho
  · exact ⟨fun X ca lev W C => PE.imp (pe_cmpR (opOwnE C false) (ha X ca lev W C) (hb X ca lev W C) hm) fun σ H Q h => (own2_pre C).1 h,
      fun X ca lev W C => PT.imp (pt_cmpR (opOwnE C false) (ha X ca lev W C) (hb X ca lev W C) hm) fun σ H Q ⟨ρ, S, F, m, w, r, q⟩ => (own2_pre C).1 (bl_of w r q)⟩
  · exact ⟨fun X ca lev W C => PE.imp (pe_cmpR (opOwnE C true) (ha X ca lev W C) (hb X ca lev W C) hm) fun σ H Q h => (own2_pre C).1 h,
      fun X ca lev W C => PT.imp (pt_cmpR (opOwnE C true) (ha X ca lev W C) (hb X ca lev W C) hm) fun σ H Q ⟨ρ, S, F, m, w, r, q⟩ => (own2_pre C).1 (bl_of w r q)⟩
  · exact ⟨fun X ca lev W C => PE.imp (pe_cmpR (opOwnI C false) (ha X ca lev W C) (hb X ca lev W C) hm) fun σ H Q h => (own2_pre C).2 h,
      fun X ca lev W C => PT.imp (pt_cmpR (opOwnI C false) (ha X ca lev W C) (hb X ca lev W C) hm) fun σ H Q ⟨ρ, S, F, m, w, r, q⟩ => (own2_pre C).2 (bl_of w r q)⟩
  · exact ⟨fun X ca lev W C => PE.imp (pe_cmpR (opOwnI C true) (ha X ca lev W C) (hb X ca lev W C) hm) fun σ H Q h => (own2_pre C).2 h,
      fun X ca lev W C => PT.imp (pt_cmpR (opOwnI C true) (ha X ca lev W C) (hb X ca lev W C) hm) fun σ H Q ⟨ρ, S, F, m, w, r, q⟩ => (own2_pre C).2 (bl_of w r q)⟩
end
end EV

namespace EV
open PySem PySem.Spec PyProof.Rows L2
/-! x[::-1] -/
def dBack (_ : Cells) : D → Option B
  | .lst ds => some (.lst ds.reverse, true)
  | .tup ds => some (.tup ds.reverse, false)
  | _ => none
theorem RepL.reverse {K : PySem.W.Frag} {H : Hp} {m : List Addr} : ∀ {ds : List D} {vs : List V}, RepL K H m ds vs → RepL K H m ds.reverse vs.reverse
  | [], vs, h => by simp only [RepL] at h; subst h; exact .nil
  | d :: ds, vs, h => by
    simp only [RepL] at h
    obtain ⟨x, xs, rfl, r, q⟩ := h
    simp only [List.reverse_cons]
    exact RepL.append (RepL.reverse q) (.one r)
section
variable {pg : Pg} {N : List Str} {sc : Scope}
theorem okBack {e : Expr} {f : SE} {k : Nat} {p1 p2 p3 pos : Pos} (he : OkE pg N sc e f) : OkE pg N sc (.Subscript e (.Slice none none (some (.UnaryOp .USub (.Constant (.int 1) k p1) p2)) p3) pos) (cOp1 dBack f) := fun X ca lev W C => by
  refine PE.imp (EVX.pe_back (he X ca lev W C)) fun σ H Q ⟨ρ, S, F, m, w, r, q⟩ => ?_
  refine tE.ofF w r (Post.mono (Post.bind q) fun b S1 F1 H1 m1 e1 g1 q1 x rx => ?_)
  obtain ⟨bb, e3, o⟩ := post_lift (fun p h0 => g1.fresh h0) q1
  obtain ⟨d, own⟩ := b
  have w1 := g1.w
  cases d with
  | lst ds =>
    cases e3
    simp only [Rep] at rx
    obtain ⟨p, xs, rfl, h1, h2, h3⟩ := rx
    exact ⟨p, xs, rfl, .inl ⟨SqL.of (w1.sub _ _ h1), fun a ha => Outs.lst w1 o h3.reverse (by rw [List.length_reverse]; exact h2) a ha⟩⟩
  | tup ds =>
    cases e3
    simp only [Rep] at rx
    obtain ⟨p, xs, rfl, h1, h2, h3⟩ := rx
    exact ⟨p, xs, rfl, .inr ⟨SqT.sub w1.sub h1, fun a ha => Outs.tup w1 o h3.reverse (by rw [List.length_reverse]; exact h2) a ha⟩⟩
  | _ => cases e3
/-! x.upper() -/
def gUpper (_ : Cells) : D → Option B
  | .str a => if decide (a.length ≤ 5592405) && decide ((Txt.upper a).length ≤ 16777216) && cpOk (Txt.upper a) then some (.str (Txt.upper a), false) else none
  | _ => none
theorem okUpper {o : Expr} {f : SE} {apos pos : Pos} (hn : notCallE o = true) (hl : (apos.endLine == pos.line) = true) (ho : OkE pg N sc o f) : OkE pg N sc (.Call (.Attribute o "upper" apos) [] [] pos) (cOp1 gUpper f) := fun X ca lev W C => by
  refine PE.imp (pe_upper (ho X ca lev W C) (abase hn) hl) fun σ H Q ⟨ρ, S, F, m, w, r, q⟩ => ?_
  refine tE.ofF w r (Post.mono (Post.bind q) fun b S1 F1 H1 m1 e1 g1 q1 x rx => ?_)
  obtain ⟨bb, e3, o⟩ := post_lift (fun p h0 => g1.fresh h0) q1
  obtain ⟨d, own⟩ := b
  cases d with
  | str a =>
    simp only [gUpper] at e3
    split at e3
    · rename_i hc
      simp only [Bool.and_eq_true, decide_eq_true_eq] at hc
      cases e3
      simp only [Rep] at rx
      obtain ⟨rfl, _⟩ := rx
      exact ⟨⟨a, rfl⟩, a, rfl, rfl, hc.1.1, o.val g1.w (by simp only [Rep]; rw [line24]; exact ⟨trivial, hc.1.2, hc.2⟩)⟩
    · cases e3
  | _ => cases e3
end
/-! min, max, sum of a list of ints -/
def leastI : List Int → Option Int
  | [] => none
  | i :: is => some (is.foldl (fun a b => if b < a then b else a) i)
def mostI : List Int → Option Int
  | [] => none
  | i :: is => some (is.foldl (fun a b => if a < b then b else a) i)
theorem leastI_fold : ∀ (is : List Int) (i : Int), (is.foldl (fun a b => if b < a then b else a) i ∈ i :: is) ∧ ∀ y, y ∈ i :: is → is.foldl (fun a b => if b < a then b else a) i ≤ y
  | [], i => by simp
  | j :: is, i => by
    obtain ⟨h1, h2⟩ := leastI_fold is (if j < i then j else i)
    simp only [List.foldl_cons]
    constructor
    · rcases List.mem_cons.mp h1 with h | h
      · rw [h]; split <;> simp
      · exact List.mem_cons_of_mem _ (List.mem_cons_of_mem _ h)
    · intro y hy
      have h0 := h2 _ (List.mem_cons_self ..)
      rcases List.mem_cons.mp hy with rfl | hy
      · split at h0 <;> rename_i hc <;> simp only [hc, if_true, if_false] <;> omega
      · rcases List.mem_cons.mp hy with rfl | hy
        · split at h0 <;> rename_i hc <;> simp only [hc, if_true, if_false] <;> omega
        · exact h2 y (List.mem_cons_of_mem _ hy)
theorem mostI_fold : ∀ (is : List Int) (i : Int), (is.foldl (fun a b => if a < b then b else a) i ∈ i :: is) ∧ ∀ y, y ∈ i :: is → y ≤ is.foldl (fun a b => if a < b then b else a) i
  | [], i => by simp
  | j :: is, i => by
    obtain ⟨h1, h2⟩ := mostI_fold is (if i < j then j else i)
    simp only [List.foldl_cons]
    constructor
    · rcases List.mem_cons.mp h1 with h | h
      · rw [h]; split <;> simp
      · exact List.mem_cons_of_mem _ (List.mem_cons_of_mem _ h)
    · intro y hy
      have h0 := h2 _ (List.mem_cons_self ..)
      rcases List.mem_cons.mp hy with rfl | hy
      · split at h0 <;> rename_i hc <;> simp only [hc, if_true, if_false] <;> omega
      · rcases List.mem_cons.mp hy with rfl | hy
        · split at h0 <;> rename_i hc <;> simp only [hc, if_true, if_false] <;> omega
        · exact h2 y (List.mem_cons_of_mem _ hy)
def bMinA (S : Cells) : List D → Option B
  | [.lst ds] => (match intsD ds with
    | some is => (leastI is).bind bI
    | none => none)
  | ds => bMin2 S ds
def bMaxA (S : Cells) : List D → Option B
  | [.lst ds] => (match intsD ds with
    | some is => (mostI is).bind bI
    | none => none)
  | ds => bMax2 S ds
def bSum (_ : Cells) : List D → Option B
  | [.lst ds] => (match intsD ds with
    | some is => bI is.sum
    | none => none)
  | _ => none
section
variable {X : Cx}
theorem crMinA (hc : X.calm = true) (rm : Rm 0 X.A) : CallR X (.builtin "min") (rDn X.K bMinA) := by
  intro pins s σ H xs us Q I rv ⟨F, m, S, ds, b, w, rl, he, o⟩
  unfold bMinA at he
  split at he
  · rename_i ds
    split at he
    · rename_i is hi
      refine cr_min hc pins s σ H xs us Q I rv ?_
      obtain ⟨x, rfl, r⟩ := rl.one'
      simp only [Rep] at r
      obtain ⟨p, ys, rfl, h1, h2, h3⟩ := r
      have e := intsD_ok hi h3
      subst e
      cases is with
      | nil => cases he
      | cons i is =>
        refine ⟨p, i :: is, rfl, SqL.of (w.sub _ _ h1), by simp, fun k k1 k2 => ?_⟩
        cases he
        obtain ⟨f1, f2⟩ := leastI_fold is i
        have e : k = is.foldl (fun a b => if b < a then b else a) i := Int.le_antisymm (k2 _ f1) (f2 _ k1)
        rw [e]
        exact o.val w (rep_int _)
    · cases he
  · exact crMin2 hc rm pins s σ H xs us Q I rv ⟨F, m, S, _, b, w, rl, he, o⟩
theorem crMaxA (hc : X.calm = true) (rm : Rm 0 X.A) : CallR X (.builtin "max") (rDn X.K bMaxA) := by
  intro pins s σ H xs us Q I rv ⟨F, m, S, ds, b, w, rl, he, o⟩
  unfold bMaxA at he
  split at he
  · rename_i ds
    split at he
    · rename_i is hi
      refine cr_max hc pins s σ H xs us Q I rv ?_
      obtain ⟨x, rfl, r⟩ := rl.one'
      simp only [Rep] at r
      obtain ⟨p, ys, rfl, h1, h2, h3⟩ := r
      have e := intsD_ok hi h3
      subst e
      cases is with
      | nil => cases he
      | cons i is =>
        refine ⟨p, i :: is, rfl, SqL.of (w.sub _ _ h1), by simp, fun k k1 k2 => ?_⟩
        cases he
        obtain ⟨f1, f2⟩ := mostI_fold is i
        have e : k = is.foldl (fun a b => if a < b then b else a) i := Int.le_antisymm (f2 _ k1) (k2 _ f1)
        rw [e]
        exact o.val w (rep_int _)
    · cases he
  · exact crMax2 hc rm pins s σ H xs us Q I rv ⟨F, m, S, _, b, w, rl, he, o⟩
theorem crSum (hc : X.calm = true) (rm : Rm 0 X.A) : CallR X (.builtin "sum") (rDn X.K bSum) := by
  refine CallR.imp (cr_sum hc) fun xs H Q ⟨F, m, S, ds, b, w, rl, he, o⟩ => ?_
  unfold bSum at he
  split at he
  · rename_i ds
    split at he
    · rename_i is hi
      cases he
      obtain ⟨x, rfl, r⟩ := rl.one'
      simp only [Rep] at r
      obtain ⟨p, ys, rfl, h1, h2, h3⟩ := r
      have e := intsD_ok hi h3
      subst e
      exact ⟨p, is, rfl, SqL.of (w.sub _ _ h1), o.val w (rep_int _)⟩
    · cases he
  · cases he
end
end EV

namespace EV
open PySem PySem.Spec PyProof.Rows L2

/-! ### from the text to the combinators: expressions -/
structure Rec where
  e : Scope → Expr → Option SE
  t : Scope → Expr → Option ST
  l : Scope → Expr → Option SE
structure RecOk (pg : Pg) (N : List Str) (r : Rec) : Prop where
  e : ∀ sc e f, r.e sc e = some f → OkE pg N sc e f
  t : ∀ sc e f, r.t sc e = some f → OkT pg N sc e f
  l : ∀ sc e f, r.l sc e = some f → OkE pg.off N sc e f
def mapO {α β : Type} (g : α → Option β) : List α → Option (List β)
  | [] => some []
  | a :: as => match g a, mapO g as with
    | some b, some bs => some (b :: bs)
    | _, _ => none
theorem mapO_len {α β : Type} {g : α → Option β} : ∀ {as : List α} {bs : List β}, mapO g as = some bs → as.length = bs.length
  | [], bs, h => by cases h; rfl
  | a :: as, bs, h => by
    unfold mapO at h
    split at h
    · rename_i b bs' h1 h2
      cases h
      simp [mapO_len h2]
    · cases h
theorem mapO_get {α β : Type} {g : α → Option β} : ∀ {as : List α} {bs : List β}, mapO g as = some bs → ∀ (i : Nat) a b, as[i]? = some a → bs[i]? = some b → g a = some b
  | [], bs, h, i, a, b, ha, hb => by simp at ha
  | a0 :: as, bs, h, i, a, b, ha, hb => by
    unfold mapO at h
    split at h
    · rename_i b' bs' h1 h2
      cases h
      cases i with
      | zero => simp at ha hb; subst ha hb; exact h1
      | succ i => simp at ha hb; exact mapO_get h2 i a b ha hb
    · cases h
theorem aOf_len : ∀ {fs : List SE} {ca : Ca} {ρ : En} {S S' : Cells} {ds : List D}, aOf fs ca ρ S = .ok ds S' → ds.length = fs.length
  | [], ca, ρ, S, S', ds, h => by cases h; rfl
  | f :: fs, ca, ρ, S, S', ds, h => by
    have h' : (f ca ρ S).bind (fun b S => (aOf fs ca ρ S).bind fun ds S => .ok (b.1 :: ds) S) = .ok ds S' := h
    cases e1 : f ca ρ S with
    | no => rw [e1] at h'; cases h'
    | exn c d S1 => rw [e1] at h'; cases h'
    | ok b S1 =>
      rw [e1] at h'
      have h2 : (aOf fs ca ρ S1).bind (fun ds S => .ok (b.1 :: ds) S) = .ok ds S' := h'
      cases e2 : aOf fs ca ρ S1 with
      | no => rw [e2] at h2; cases h2
      | exn c d S1 => rw [e2] at h2; cases h2
      | ok es S2 =>
        rw [e2] at h2
        have h3 : (R.ok (b.1 :: es) S2 : R (List D)) = .ok ds S' := h2
        cases h3
        simp [aOf_len e2]
section
variable {pg : Pg} {N : List Str} {sc : Scope}
theorem okAs {r : Rec} (R : RecOk pg N r) : ∀ {es : List Expr} {fs : List SE}, es.all noStar = true → mapO (r.e sc) es = some fs → OkA pg N sc es (aOf fs)
  | [], fs, _, h => by cases h; exact okNil
  | e :: es, fs, hs, h => by
    simp only [List.all_cons, Bool.and_eq_true] at hs
    unfold mapO at h
    split at h
    · rename_i f fs' h1 h2
      cases h
      exact okCons hs.1 (R.e sc e f h1) (okAs R hs.2 h2)
    · cases h
/-- arguments, starred ones among them -/
def rAs (r : Rec) (sc : Scope) : List Expr → Option SA
  | [] => some aNil
  | .Starred e _ :: es => (match r.e sc e, rAs r sc es with
    | some f, some a => some (aStar f a)
    | _, _ => none)
  | e :: es => (match r.e sc e, rAs r sc es with
    | some f, some a => some (aCons f a)
    | _, _ => none)
theorem rAs_ok {r : Rec} (R : RecOk pg N r) : ∀ {es : List Expr} {a : SA}, rAs r sc es = some a → OkA pg N sc es a
  | [], a, h => by cases h; exact okNil
  | e :: es, a, h => by
    by_cases hs : ∃ x p, e = .Starred x p
    · obtain ⟨x, p, rfl⟩ := hs
      simp only [rAs] at h
      split at h
      · rename_i f b h1 h2
        cases h
        exact okStar (R.e _ _ _ h1) (rAs_ok R h2)
      · cases h
    · have hn : noStar e = true := by cases e <;> first | rfl | exact absurd ⟨_, _, rfl⟩ hs
      have h' : (match r.e sc e, rAs r sc es with
        | some f, some a => some (aCons f a)
        | _, _ => none) = some a := by
        cases e <;> first | exact h | exact absurd ⟨_, _, rfl⟩ hs
      split at h'
      · rename_i f b h1 h2
        cases h'
        exact okCons hn (R.e _ _ _ h1) (rAs_ok R h2)
      · cases h'
/-! names, constants -/
def rName (pg : Pg) (N : List Str) (sc : Scope) (x : Str) : Option SE :=
  if plainName x then (if visB sc x then (slot? N x).map cVar else if glB sc x then (pg.cons.lookup x).map cCon else none) else none
theorem rName_ok {x : Str} {pos : Pos} {f : SE} (h : rName pg N sc x = some f) : OkE pg N sc (.Name x pos) f := by
  unfold rName at h
  split at h
  · split at h
    · cases q : slot? N x with
      | none => rw [q] at h; cases h
      | some i => rw [q] at h; cases h; exact okVar q (by assumption) (by assumption)
    · split at h
      · cases q : pg.cons.lookup x with
        | none => rw [q] at h; cases h
        | some i => rw [q] at h; cases h; exact okGlob (by assumption) (by assumption) q
      · cases h
  · cases h
def rConst : Const → Option SE
  | .none => some (cCon .non)
  | .bool b => some (cCon (.bl b))
  | .int i => some (cCon (.int i))
  | .str x => if decide (x.length ≤ 16777216) && cpOk x then some (cCon (.str x)) else none
  | _ => none
theorem rConst_ok {c : Const} {j : Nat} {pos : Pos} {f : SE} (h : rConst c = some f) : OkE pg N sc (.Constant c j pos) f := by
  unfold rConst at h
  split at h
  · cases h; exact okNon
  · cases h; exact okBl
  · cases h; exact okInt
  · split at h
    · rename_i hc
      simp only [Bool.and_eq_true, decide_eq_true_eq] at hc
      cases h; exact okStr hc.1 hc.2
    · cases h
  · cases h
/-! operators -/
def binG : Operator → Option (Cells → D → D → Option B)
  | .Add => some dAdd
  | .Sub => some dSub
  | .Mult => some dMul
  | .Mod => some dMod
  | .Pow => some dPow
  | .LShift => some dShl
  | .RShift => some dShr
  | .BitOr => some dOrI
  | .BitXor => some dXor
  | .BitAnd => some dAndI
  | .FloorDiv => some dDiv
  | _ => none
theorem binG_ok {op : Operator} {g : Cells → D → D → Option B} (h : binG op = some g) : ∀ X, OpR X (binaryOp op) (rD2 X.K g) := by
  intro X
  cases op <;> cases h
  · exact opAdd
  · exact opSub
  · exact opMul
  · exact opMod
  · exact opPow
  · exact opShl
  · exact opShr
  · exact opOrI
  · exact opXor
  · exact opAndI
  · exact opDiv
def cmpG : CmpOp → Option (Cells → D → D → Option B)
  | .Eq => some dEq
  | .NotEq => some dNe
  | .Lt => some dLt
  | .LtE => some dLe
  | .Gt => some dGt
  | .GtE => some dGe
  | .Is => some dIs
  | .IsNot => some dIsNot
  | .In => some dIn
  | .NotIn => some dNotIn
theorem cmpG_ok {op : CmpOp} {g : Cells → D → D → Option B} (h : cmpG op = some g) : ∀ X, Rm 0 X.A → OpR X (compareOp op) (rD2 X.K g) := by
  intro X r
  cases op <;> cases h
  · exact opEq r
  · exact opNe r
  · exact opLt r
  · exact opLe r
  · exact opGt r
  · exact opGe r
  · exact opIs r
  · exact opIsNot r
  · exact opIn r
  · exact opNotIn r
/-- the operand by whose class's own method the operation is done -/
def ownN (pg : Pg) (op : CmpOp) (a b : Expr) : Bool := match op, a, b with
  | .Eq, .Name x _, _ => pg.eqn.contains x
  | .NotEq, .Name x _, _ => pg.eqn.contains x
  | .In, _, .Name x _ => pg.eqn.contains x
  | .NotIn, _, .Name x _ => pg.eqn.contains x
  | _, _, _ => false
def rCmp1 (pg : Pg) (r : Rec) (sc : Scope) (a : Expr) (op : CmpOp) (b : Expr) : Option SE := if ownN pg op a b then (match ownG pg op, r.e sc a, r.e sc b with
    | some g, some fa, some fb => if behindInMarks op b then none else some (cOwn g fa fb)
    | _, _, _ => none) else (match cmpG op, r.e sc a, r.e sc b with
    | some g, some fa, some fb => if behindInMarks op b then none else some (cOp2 g fa fb)
    | _, _, _ => none)
theorem rCmp1_ok {r : Rec} (R : RecOk pg N r) {a b : Expr} {op : CmpOp} {pos : Pos} {f : SE} (h : rCmp1 pg r sc a op b = some f) : OkE pg N sc (.Compare a [op] [b] pos) f ∧ OkT pg N sc (.Compare a [op] [b] pos) (tBl f) := by
  unfold rCmp1 at h
  split at h
  · split at h
    · rename_i g fa fb h1 h2 h3
      split at h
      · cases h
      · rename_i hm
        cases h
        exact okOwn h1 (by simpa using hm) (R.e _ _ _ h2) (R.e _ _ _ h3)
    · cases h
  · split at h
    · rename_i g fa fb h1 h2 h3
      split at h
      · cases h
      · rename_i hm
        cases h
        exact ⟨okCmp (cmpG_ok h1) (by simpa using hm) (R.e _ _ _ h2) (R.e _ _ _ h3), okTCmp (cmpG_ok h1) (by simpa using hm) (R.e _ _ _ h2) (R.e _ _ _ h3)⟩
    · cases h
def rCmp (pg : Pg) (r : Rec) (sc : Scope) (a : Expr) (ops : List CmpOp) (cs : List Expr) : Option SE := match ops, cs with
  | [op], [b] => rCmp1 pg r sc a op b
  | [op, op'], [b, c] => (match cmpG op, cmpG op', r.e sc a, r.e sc b, r.e sc c with
    | some g, some g', some fa, some fb, some fc => if lastMarks [op, op'] [b, c] then none else some (cChain g g' fa fb fc)
    | _, _, _, _, _ => none)
  | _, _ => none
theorem rCmp_ok {r : Rec} (R : RecOk pg N r) {a : Expr} {ops : List CmpOp} {cs : List Expr} {pos : Pos} {f : SE} (h : rCmp pg r sc a ops cs = some f) : OkE pg N sc (.Compare a ops cs pos) f ∧ OkT pg N sc (.Compare a ops cs pos) (tBl f) := by
  unfold rCmp at h
  split at h
  · exact rCmp1_ok R h
  · split at h
    · rename_i g g' fa fb fc h1 h2 h3 h4 h5
      split at h
      · cases h
      · rename_i hm
        cases h
        exact ⟨okChain (cmpG_ok h1) (cmpG_ok h2) (by simpa using hm) (R.e _ _ _ h3) (R.e _ _ _ h4) (R.e _ _ _ h5), okTChain (cmpG_ok h1) (cmpG_ok h2) (by simpa using hm) (R.e _ _ _ h3) (R.e _ _ _ h4) (R.e _ _ _ h5)⟩
    · cases h
  · cases h
/-! and, or -/
def boolE (op : BoolOp) : List SE → Option SE
  | [] => none
  | [f] => some f
  | f :: g :: fs => match boolE op (g :: fs) with
    | some h => some (match op with
      | .And => cAnd f h
      | .Or => cOr f h)
    | none => none
theorem boolE_ok {r : Rec} (R : RecOk pg N r) {op : BoolOp} {pos : Pos} : ∀ {es : List Expr} {fs : List SE} {f : SE}, mapO (r.e sc) es = some fs → boolE op fs = some f → OkE pg N sc (.BoolOp op es pos) f
  | [], fs, f, h, k => by cases h; cases k
  | [e], fs, f, h, k => by
    unfold mapO at h
    split at h
    · rename_i b bs h1 h2
      cases h2; cases h
      cases k
      exact okAnd1 (R.e _ _ _ h1)
    · cases h
  | e :: e2 :: es, fs, f, h, k => by
    unfold mapO at h
    split at h
    · rename_i b bs h1 h2
      cases h
      have h2' := h2
      unfold mapO at h2
      split at h2
      · cases h2
        unfold boolE at k
        split at k
        · rename_i hh hk
          cases k
          cases op with
          | And => exact okAnd (R.e _ _ _ h1) (boolE_ok R h2' hk)
          | Or => exact okOr (R.e _ _ _ h1) (boolE_ok R h2' hk)
        · cases k
      · cases h2
    · cases h
def boolT (op : BoolOp) : List ST → Option ST
  | [] => none
  | [f] => some f
  | f :: g :: fs => match boolT op (g :: fs) with
    | some h => some (match op with
      | .And => tAndT f h
      | .Or => tOrT f h)
    | none => none
theorem boolT_ok {r : Rec} (R : RecOk pg N r) {op : BoolOp} {pos : Pos} : ∀ {es : List Expr} {fs : List ST} {f : ST}, mapO (r.t sc) es = some fs → boolT op fs = some f → OkW pg N sc (.BoolOp op es pos) f
  | [], fs, f, h, k => by cases h; cases k
  | [e], fs, f, h, k => by
    unfold mapO at h
    split at h
    · rename_i b bs h1 h2
      cases h2; cases h
      cases k
      cases op with
      | And => exact okTAnd1 (R.t _ _ _ h1)
      | Or => exact okTOr1 (R.t _ _ _ h1)
    · cases h
  | e :: e2 :: es, fs, f, h, k => by
    unfold mapO at h
    split at h
    · rename_i b bs h1 h2
      cases h
      have h2' := h2
      unfold mapO at h2
      split at h2
      · cases h2
        unfold boolT at k
        split at k
        · rename_i hh hk
          cases k
          cases op with
          | And => exact okTAnd (R.t _ _ _ h1) (boolT_ok R h2' hk)
          | Or => exact okTOr (R.t _ _ _ h1) (boolT_ok R h2' hk)
        · cases k
      · cases h2
    · cases h
end
end EV

namespace EV
open PySem PySem.Spec PyProof.Rows L2
section
variable {pg : Pg} {N : List Str} {sc : Scope}
def rBlt (x : Str) : Option (Cells → List D → Option B) :=
  if x == ("len" : Str) then some bLen else if x == ("abs" : Str) then some bAbs else if x == ("max" : Str) then some bMaxA else if x == ("min" : Str) then some bMinA else if x == ("all" : Str) then some bAll
  else if x == ("any" : Str) then some bAny else if x == ("int" : Str) then some bInt else if x == ("list" : Str) then some bList else if x == ("tuple" : Str) then some bTuple else if x == ("sorted" : Str) then some bSorted else if x == ("sum" : Str) then some bSum else none
theorem rBlt_ok {x : Str} {g : Cells → List D → Option B} {e : Expr} {es : List Expr} {p pos : Pos} {a : SA} (h : rBlt x = some g) (hg : glB sc x = true) (hp : plainName x = true) (hb : x ∈ pg.blts) (hs : (e :: es).all noStar = true) (ha : OkA pg N sc (e :: es) a) :
    OkE pg N sc (.Call (.Name x p) (e :: es) [] pos) (cOpn g a) := by
  unfold rBlt at h
  split at h
  · rename_i hx; have := eq_of_beq hx; subst this; cases h; exact okCallB (fun X hc rm => crLen hc rm) hg hp hb (by boot_by_name) hs ha
  split at h
  · rename_i hx; have := eq_of_beq hx; subst this; cases h; exact okCallB (fun X hc rm => crAbs hc rm) hg hp hb (by boot_by_name) hs ha
  split at h
  · rename_i hx; have := eq_of_beq hx; subst this; cases h; exact okCallB (fun X hc rm => crMaxA hc rm) hg hp hb (by boot_by_name) hs ha
  split at h
  · rename_i hx; have := eq_of_beq hx; subst this; cases h; exact okCallB (fun X hc rm => crMinA hc rm) hg hp hb (by boot_by_name) hs ha
  split at h
  · rename_i hx; have := eq_of_beq hx; subst this; cases h; exact okCallB (fun X hc rm => crAll hc rm) hg hp hb (by boot_by_name) hs ha
  split at h
  · rename_i hx; have := eq_of_beq hx; subst this; cases h; exact okCallB (fun X hc rm => crAny hc rm) hg hp hb (by boot_by_name) hs ha
  split at h
  · rename_i hx; have := eq_of_beq hx; subst this; cases h; exact okCallT (fun X hc rm => crInt hc rm) hg hp hb (by boot_by_name) hs ha
  split at h
  · rename_i hx; have := eq_of_beq hx; subst this; cases h; exact okCallT (fun X hc rm => crList hc rm) hg hp hb (by boot_by_name) hs ha
  split at h
  · rename_i hx; have := eq_of_beq hx; subst this; cases h; exact okCallT (fun X hc rm => crTuple hc rm) hg hp hb (by boot_by_name) hs ha
  split at h
  · rename_i hx; have := eq_of_beq hx; subst this; cases h; exact okCallB (fun X hc rm => crSorted hc rm) hg hp hb (by boot_by_name) hs ha
  split at h
  · rename_i hx; have := eq_of_beq hx; subst this; cases h; exact okCallB (fun X hc rm => crSum hc rm) hg hp hb (by boot_by_name) hs ha
  cases h
/-- a built-in's name: free in the module, seen from here -/
def bltOk (pg : Pg) (sc : Scope) (x : Str) : Bool := glB sc x && pg.blts.contains x
theorem bltOk_ok {x : Str} (h : bltOk pg sc x = true) : glB sc x = true ∧ pg.blts.contains x = true := by
  unfold bltOk at h
  simpa only [Bool.and_eq_true] using h
def tyOf (c : Str) : Option String := if c == ("int" : Str) then some "int" else if c == ("bool" : Str) then some "bool" else if c == ("str" : Str) then some "str" else if c == ("tuple" : Str) then some "tuple" else if c == ("list" : Str) then some "list" else if c == ("dict" : Str) then some "dict" else none
theorem tyOf_ok {c : Str} {T : String} (h : tyOf c = some T) : T ∈ tyNames ∧ bootBuiltins c = some (.type T) ∧ plainName c = true := by
  unfold tyOf at h
  split at h
  · rename_i hx; have := eq_of_beq hx; subst this; cases h; exact ⟨by decide, by boot_by_name, by decide⟩
  split at h
  · rename_i hx; have := eq_of_beq hx; subst this; cases h; exact ⟨by decide, by boot_by_name, by decide⟩
  split at h
  · rename_i hx; have := eq_of_beq hx; subst this; cases h; exact ⟨by decide, by boot_by_name, by decide⟩
  split at h
  · rename_i hx; have := eq_of_beq hx; subst this; cases h; exact ⟨by decide, by boot_by_name, by decide⟩
  split at h
  · rename_i hx; have := eq_of_beq hx; subst this; cases h; exact ⟨by decide, by boot_by_name, by decide⟩
  split at h
  · rename_i hx; have := eq_of_beq hx; subst this; cases h; exact ⟨by decide, by boot_by_name, by decide⟩
  cases h
/-! calls by a name -/
def rIsi (pg : Pg) (r : Rec) (sc : Scope) (a b : Expr) : Option SE := match b with
  | .Name c _ => if bltOk pg sc "isinstance" && noStar a then (if c == ("ValueError" : Str) then (if bltOk pg sc "ValueError" then (r.e sc a).map (cOp1 (gIsVE pg.excs)) else none)
      else if pg.excs.contains c && glB sc c && plainName c then (r.e sc a).map (cOp1 (gIsE pg.excs c)) else (match tyOf c with
        | some T => if bltOk pg sc c then (r.e sc a).map (cOp1 (gIsT T)) else none
        | none => if (pg.cls.lookup c).isSome && glB sc c && plainName c then (r.e sc a).map (cOp1 (gIsC c)) else none)) else none
  | _ => none
theorem rIsi_ok {r : Rec} (R : RecOk pg N r) {a b : Expr} {p pos : Pos} {f : SE} (h : rIsi pg r sc a b = some f) : OkE pg N sc (.Call (.Name "isinstance" p) [a, b] [] pos) f := by
  unfold rIsi at h
  split at h
  · split at h
    · rename_i c p2 hc
      simp only [Bool.and_eq_true] at hc
      obtain ⟨h1, h2⟩ := bltOk_ok hc.1
      split at h
      · rename_i hx
        have := eq_of_beq hx
        subst this
        split at h
        · rename_i hv
          obtain ⟨h3, h4⟩ := bltOk_ok hv
          cases q : r.e sc a with
          | none => rw [q] at h; cases h
          | some fa => rw [q] at h; cases h; exact okIsVE h1 h2 h3 h4 hc.2 (R.e _ _ _ q)
        · cases h
      · split at h
        · rename_i hx
          simp only [Bool.and_eq_true] at hx
          cases q : r.e sc a with
          | none => rw [q] at h; cases h
          | some fa => rw [q] at h; cases h; exact okIsE hx.1.1 h1 h2 hx.1.2 hx.2 hc.2 (R.e _ _ _ q)
        · split at h
          · rename_i T hT
            split at h
            · rename_i hv
              obtain ⟨h3, h4⟩ := bltOk_ok hv
              obtain ⟨t1, t2, t3⟩ := tyOf_ok hT
              cases q : r.e sc a with
              | none => rw [q] at h; cases h
              | some fa => rw [q] at h; cases h; exact okIsT t1 t2 h1 h2 h3 h4 t3 hc.2 (R.e _ _ _ q)
            · cases h
          · split at h
            · rename_i hx
              simp only [Bool.and_eq_true] at hx
              obtain ⟨i, hi⟩ := Option.isSome_iff_exists.mp hx.1.1
              cases q : r.e sc a with
              | none => rw [q] at h; cases h
              | some fa => rw [q] at h; cases h; exact okIsC hi h1 h2 hx.1.2 hx.2 hc.2 (R.e _ _ _ q)
            · cases h
    · cases h
  · cases h
def rListR (pg : Pg) (r : Rec) (sc : Scope) (e : Expr) : Option SE := match e with
  | .Call (.Name x _) [a] [] _ => if x == ("range" : Str) && bltOk pg sc "range" && bltOk pg sc "list" && noStar a then (r.e sc a).map (cOp1 gLR) else none
  | .Call (.Name x _) [a, b] [] _ => if x == ("range" : Str) && bltOk pg sc "range" && bltOk pg sc "list" && noStar a && noStar b then (match r.e sc a, r.e sc b with
    | some f, some g => some (cOp2 gLR2 f g)
    | _, _ => none) else none
  | _ => none
theorem rListR_ok {r : Rec} (R : RecOk pg N r) {e : Expr} {p pos : Pos} {f : SE} (h : rListR pg r sc e = some f) : OkE pg N sc (.Call (.Name "list" p) [e] [] pos) f := by
  unfold rListR at h
  split at h
  · split at h
    · rename_i hc
      simp only [Bool.and_eq_true] at hc
      obtain ⟨⟨⟨hx, h1⟩, h2⟩, h3⟩ := hc
      have := eq_of_beq hx
      subst this
      obtain ⟨a1, a2⟩ := bltOk_ok h1
      obtain ⟨b1, b2⟩ := bltOk_ok h2
      rename_i a _
      cases q : r.e sc a with
      | none => rw [q] at h; cases h
      | some fa => rw [q] at h; cases h; exact okListRg b1 b2 a1 a2 h3 (R.e _ _ _ q)
    · cases h
  · split at h
    · rename_i hc
      simp only [Bool.and_eq_true] at hc
      obtain ⟨⟨⟨⟨hx, h1⟩, h2⟩, h3⟩, h4⟩ := hc
      have := eq_of_beq hx
      subst this
      obtain ⟨a1, a2⟩ := bltOk_ok h1
      obtain ⟨b1, b2⟩ := bltOk_ok h2
      split at h
      · rename_i q1 q2
        cases h
        exact okListRg2 b1 b2 a1 a2 h3 h4 (R.e _ _ _ q1) (R.e _ _ _ q2)
      · cases h
    · cases h
  · cases h
def orO {α : Type} (a : Option α) (b : Option α) : Option α := match a with
  | some x => some x
  | none => b
theorem orO_some {α : Type} {a b : Option α} {x : α} (h : orO a b = some x) : a = some x ∨ b = some x := by
  unfold orO at h
  split at h
  · exact .inl h
  · exact .inr h
def rOwn (pg : Pg) (r : Rec) (sc : Scope) (x : Str) (es : List Expr) : Option SE := match pg.fns.lookup x, mapO (r.e sc) es with
  | some i, some fs => if glB sc x && es.all noStar && decide (es.length + i.dfl.length ≥ i.ps.length) && decide (es.length ≤ i.ps.length) then some (cCall (x, none) (i.dfl.drop (es.length + i.dfl.length - i.ps.length)) (aOf fs)) else none
  | _, _ => none
theorem rOwn_ok {r : Rec} (R : RecOk pg N r) {x : Str} {e : Expr} {es : List Expr} {p pos : Pos} {f : SE} (hp : plainName x = true) (h : rOwn pg r sc x (e :: es) = some f) : OkE pg N sc (.Call (.Name x p) (e :: es) [] pos) f := by
  unfold rOwn at h
  split at h
  · rename_i i fs h1 h2
    split at h
    · rename_i hc
      simp only [Bool.and_eq_true, decide_eq_true_eq] at hc
      cases h
      exact okCall h1 hc.1.1.1 hp hc.1.1.2 hc.1.2 hc.2 (okAs R hc.1.1.2 h2) fun ca ρ S ds S' z => by rw [aOf_len z, ← mapO_len h2]
    · cases h
  · cases h
def rExc (pg : Pg) (r : Rec) (sc : Scope) (x : Str) (es : List Expr) : Option SE := match es with
  | [e] => if pg.excs.contains x && glB sc x && noStar e then (r.e sc e).map fun f => cOpn (gExc x) (aCons f aNil) else none
  | _ => none
theorem rExc_ok {r : Rec} (R : RecOk pg N r) {x : Str} {es : List Expr} {p pos : Pos} {f : SE} (hp : plainName x = true) (h : rExc pg r sc x es = some f) : OkE pg N sc (.Call (.Name x p) es [] pos) f := by
  unfold rExc at h
  split at h
  · split at h
    · rename_i e hc
      simp only [Bool.and_eq_true] at hc
      cases q : r.e sc e with
      | none => rw [q] at h; cases h
      | some fa => rw [q] at h; cases h; exact okExc hc.1.1 hc.1.2 hp hc.2 (R.e _ _ _ q)
    · cases h
  · cases h
def rBltC (pg : Pg) (r : Rec) (sc : Scope) (x : Str) (es : List Expr) : Option SE := match rBlt x, mapO (r.e sc) es with
  | some g, some fs => if bltOk pg sc x && es.all noStar then some (cOpn g (aOf fs)) else none
  | _, _ => none
theorem rBltC_ok {r : Rec} (R : RecOk pg N r) {x : Str} {e : Expr} {es : List Expr} {p pos : Pos} {f : SE} (hp : plainName x = true) (h : rBltC pg r sc x (e :: es) = some f) : OkE pg N sc (.Call (.Name x p) (e :: es) [] pos) f := by
  unfold rBltC at h
  split at h
  · rename_i g fs h1 h2
    split at h
    · rename_i hc
      simp only [Bool.and_eq_true] at hc
      obtain ⟨a1, a2⟩ := bltOk_ok hc.1
      cases h
      exact rBlt_ok h1 a1 hp (List.contains_iff_mem.mp a2) hc.2 (okAs R hc.2 h2)
    · cases h
  · cases h
def rRepr (pg : Pg) (r : Rec) (sc : Scope) (es : List Expr) : Option SE := match es with
  | [e] => if bltOk pg sc "repr" && noStar e then (r.e sc e).map (cOp1 gRepr) else none
  | _ => none
theorem rRepr_ok {r : Rec} (R : RecOk pg N r) {es : List Expr} {p pos : Pos} {f : SE} (h : rRepr pg r sc es = some f) : OkE pg N sc (.Call (.Name "repr" p) es [] pos) f := by
  unfold rRepr at h
  split at h
  · split at h
    · rename_i e hc
      simp only [Bool.and_eq_true] at hc
      obtain ⟨a1, a2⟩ := bltOk_ok hc.1
      cases q : r.e sc e with
      | none => rw [q] at h; cases h
      | some fa => rw [q] at h; cases h; exact okRepr a1 a2 hc.2 (R.e _ _ _ q)
    · cases h
  · cases h
def rLen (pg : Pg) (r : Rec) (sc : Scope) (es : List Expr) : Option SE := match es with
  | [.Call (.Name x _) [e] [] _] => if x == ("set" : Str) then (if bltOk pg sc "len" && bltOk pg sc "set" && noStar e then (r.e sc e).map (cOp1 gSetN) else none)
    else if bltOk pg sc "len" then (match es with
      | [e] => (r.e sc e).map (cLen pg)
      | _ => none) else none
  | [e] => if bltOk pg sc "len" && noStar e then (r.e sc e).map (cLen pg) else none
  | _ => none
theorem rLen_ok {r : Rec} (R : RecOk pg N r) {es : List Expr} {p pos : Pos} {f : SE} (h : rLen pg r sc es = some f) : OkE pg N sc (.Call (.Name "len" p) es [] pos) f := by
  unfold rLen at h
  split at h
  · split at h
    · rename_i hx
      have := eq_of_beq hx
      subst this
      split at h
      · rename_i p2 e q2 hc
        simp only [Bool.and_eq_true] at hc
        obtain ⟨a1, a2⟩ := bltOk_ok hc.1.1
        obtain ⟨a3, a4⟩ := bltOk_ok hc.1.2
        cases q : r.e sc e with
        | none => rw [q] at h; cases h
        | some fa => rw [q] at h; cases h; exact okSetN a1 (List.contains_iff_mem.mp a2) a3 (List.contains_iff_mem.mp a4) hc.2 (R.e _ _ _ q)
      · cases h
    · split at h
      · rename_i hb
        obtain ⟨a1, a2⟩ := bltOk_ok hb
        dsimp only at h
        rename_i x p2 e q2 hx
        cases q : r.e sc (.Call (.Name x p2) [e] [] q2) with
        | none => rw [q] at h; cases h
        | some fa => rw [q] at h; cases h; exact okLen a1 (List.contains_iff_mem.mp a2) rfl (R.e _ _ _ q)
      · cases h
  · split at h
    · rename_i e hno hc
      simp only [Bool.and_eq_true] at hc
      obtain ⟨a1, a2⟩ := bltOk_ok hc.1
      cases q : r.e sc e with
      | none => rw [q] at h; cases h
      | some fa => rw [q] at h; cases h; exact okLen a1 (List.contains_iff_mem.mp a2) hc.2 (R.e _ _ _ q)
    · cases h
  · cases h
def rMake (pg : Pg) (r : Rec) (sc : Scope) (x : Str) (es : List Expr) : Option SE := match pg.cls.lookup x, mapO (r.e sc) es with
  | some i, some fs => if glB sc x && es.all noStar && decide (es.length = i.ps.length) then some (cMake x (aOf fs)) else none
  | _, _ => none
theorem rMake_ok {r : Rec} (R : RecOk pg N r) {x : Str} {e : Expr} {es : List Expr} {p pos : Pos} {f : SE} (hp : plainName x = true) (h : rMake pg r sc x (e :: es) = some f) : OkE pg N sc (.Call (.Name x p) (e :: es) [] pos) f := by
  unfold rMake at h
  split at h
  · rename_i i fs h1 h2
    split at h
    · rename_i hc
      simp only [Bool.and_eq_true, decide_eq_true_eq] at hc
      cases h
      exact okMake h1 hc.1.1 hp hc.1.2 hc.2 (okAs R hc.1.2 h2) fun ca ρ S ds S' z => by rw [aOf_len z, mapO_len h2]
    · cases h
  · cases h
def rCall (pg : Pg) (r : Rec) (sc : Scope) (x : Str) (es : List Expr) : Option SE := match es with
  | [] => none
  | e :: es => if plainName x then (if x == ("isinstance" : Str) then (match es with
      | [b] => rIsi pg r sc e b
      | _ => none)
    else if x == ("repr" : Str) then rRepr pg r sc (e :: es)
    else if x == ("list" : Str) then (match es with
      | [] => orO (rListR pg r sc e) (rBltC pg r sc x [e])
      | _ => none)
    else if x == ("len" : Str) then rLen pg r sc (e :: es)
    else orO (rOwn pg r sc x (e :: es)) (orO (rExc pg r sc x (e :: es)) (orO (rMake pg r sc x (e :: es)) (rBltC pg r sc x (e :: es))))) else none
theorem rCall_ok {r : Rec} (R : RecOk pg N r) {x : Str} {es : List Expr} {p pos : Pos} {f : SE} (h : rCall pg r sc x es = some f) : OkE pg N sc (.Call (.Name x p) es [] pos) f := by
  unfold rCall at h
  split at h
  · cases h
  split at h
  · rename_i e es hp
    split at h
    · rename_i hx
      have := eq_of_beq hx
      subst this
      split at h
      · exact rIsi_ok R h
      · cases h
    split at h
    · rename_i hx
      have := eq_of_beq hx
      subst this
      exact rRepr_ok R h
    split at h
    · rename_i hx
      have := eq_of_beq hx
      subst this
      split at h
      · rcases orO_some h with h | h
        · exact rListR_ok R h
        · exact rBltC_ok R hp h
      · cases h
    split at h
    · rename_i hx
      have := eq_of_beq hx
      subst this
      exact rLen_ok R h
    rcases orO_some h with h | h
    · exact rOwn_ok R hp h
    rcases orO_some h with h | h
    · exact rExc_ok R hp h
    rcases orO_some h with h | h
    · exact rMake_ok R hp h
    · exact rBltC_ok R hp h
  · cases h
/-! methods -/
def bltM (m : Str) : Option (String × (Cells → D → List D → Option B)) := if m == ("index" : Str) then some ("list", gIndex) else if m == ("count" : Str) then some ("list", gCount) else if m == ("join" : Str) then some ("str", gJoin) else none
def rMeth (pg : Pg) (r : Rec) (sc : Scope) (o : Expr) (m : Str) (es : List Expr) (apos pos : Pos) : Option SE := match es with
  | [] => if m == ("upper" : Str) && notCallE o && (apos.endLine == pos.line) then (r.e sc o).map (cOp1 gUpper) else none
  | e :: es => if notCallE o && (e :: es).all noStar && decide (es.length < 20) && (apos.endLine == pos.line) then (match r.e sc o, mapO (r.e sc) (e :: es) with
    | some f, some fs => (match bltM m with
      | some (T, g) => some (cMt T g f (aOf fs))
      | none => some (cMeth pg m (e :: es).length f (aOf fs)))
    | _, _ => none) else none
theorem bltM_ok {r : Rec} {o e : Expr} {es : List Expr} {m : Str} {T : String} {g : Cells → D → List D → Option B} {apos pos : Pos} {f : SE} {a : SA} (h : bltM m = some (T, g)) (ho : OkE pg N sc o f) (ha : OkA pg N sc (e :: es) a) (hs : (e :: es).all noStar = true) (hn : notCallE o = true) (h20 : es.length < 20) (hl : (apos.endLine == pos.line) = true) :
    OkE pg N sc (.Call (.Attribute o m apos) (e :: es) [] pos) (cMt T g f a) := by
  unfold bltM at h
  split at h
  · rename_i hx; have := eq_of_beq hx; subst this; cases h
    exact okMt PySem.F.plainAttrs_list PySem.F.slot_list_index PySem.F.type_list_index (.inl rfl) (fun X hc rm => mtIndex hc rm) ho ha hs hn h20 hl
  split at h
  · rename_i hx; have := eq_of_beq hx; subst this; cases h
    exact okMt PySem.F.plainAttrs_list PySem.F.slot_list_count PySem.F.type_list_count (.inl rfl) (fun X hc rm => mtCount hc rm) ho ha hs hn h20 hl
  split at h
  · rename_i hx; have := eq_of_beq hx; subst this; cases h
    exact okMt PySem.F.plainAttrs_str PySem.F.slot_str_join PySem.F.type_str_join (.inr rfl) (fun X hc rm => mtJoin) ho ha hs hn h20 hl
  cases h
theorem rMeth_ok {r : Rec} (R : RecOk pg N r) {o : Expr} {m : Str} {es : List Expr} {apos pos : Pos} {f : SE} (h : rMeth pg r sc o m es apos pos = some f) : OkE pg N sc (.Call (.Attribute o m apos) es [] pos) f := by
  unfold rMeth at h
  split at h
  · split at h
    · rename_i hc
      simp only [Bool.and_eq_true] at hc
      have := eq_of_beq hc.1.1
      subst this
      cases q : r.e sc o with
      | none => rw [q] at h; cases h
      | some fa => rw [q] at h; cases h; exact okUpper hc.1.2 hc.2 (R.e _ _ _ q)
    · cases h
  split at h
  · rename_i e es hc
    simp only [Bool.and_eq_true, decide_eq_true_eq] at hc
    obtain ⟨⟨⟨c1, c2⟩, c3⟩, c4⟩ := hc
    split at h
    · rename_i fo fs h1 h2
      split at h
      · rename_i T g hb
        cases h
        exact bltM_ok (r := r) hb (R.e _ _ _ h1) (okAs R (by simpa using c2) h2) (by simpa using c2) c1 c3 c4
      · cases h
        exact okMeth c1 (by simpa using c2) (R.e _ _ _ h1) (okAs R (by simpa using c2) h2) (fun ca ρ S ds S' z => by rw [aOf_len z, mapO_len h2]) (mt_gen c1 (by simpa using c2) c3 c4)
    · cases h
  · cases h
/-! iteration, comprehensions -/
def rIter (pg : Pg) (r : Rec) (sc : Scope) (tg it : Expr) : Option SI := match it with
  | .Call (.Name x _) [a] [] _ => if x == ("range" : Str) then (if bltOk pg sc "range" && noStar a then (r.e sc a).map iRng1 else none)
    else if x == ("enumerate" : Str) then (match tg with
      | .Tuple .. => if bltOk pg sc "enumerate" && noStar a then (r.e sc a).map iEnuA else none
      | _ => none)
    else (r.e sc it).map iVal
  | .Call (.Name x _) [a, b] [] _ => if x == ("range" : Str) then (if bltOk pg sc "range" && noStar a && noStar b then (match r.e sc a, r.e sc b with
      | some f, some g => some (iRng2 f g)
      | _, _ => none) else none)
    else if x == ("zip" : Str) then (match tg with
      | .Tuple .. => if bltOk pg sc "zip" && noStar a && noStar b then (match r.e sc a, r.e sc b with
        | some f, some g => some (iZip f g)
        | _, _ => none) else none
      | _ => none)
    else (r.e sc it).map iVal
  | _ => (r.e sc it).map iVal
theorem rIter_ok {r : Rec} (R : RecOk pg N r) {tg it : Expr} {f : SI} (h : rIter pg r sc tg it = some f) : OkI pg N sc tg it f := by
  have val : ∀ {e : Expr} {f : SI}, (r.e sc e).map iVal = some f → OkI pg N sc tg e f := fun {e f} h => by
    cases q : r.e sc e with
    | none => rw [q] at h; cases h
    | some fa => rw [q] at h; cases h; exact okIVal (R.e _ _ _ q)
  unfold rIter at h
  split at h
  · rename_i x p a pos
    split at h
    · rename_i hx
      have := eq_of_beq hx
      subst this
      split at h
      · rename_i hc
        simp only [Bool.and_eq_true] at hc
        obtain ⟨a1, a2⟩ := bltOk_ok hc.1
        cases q : r.e sc a with
        | none => rw [q] at h; cases h
        | some fa => rw [q] at h; cases h; exact okIRng1 a1 (List.contains_iff_mem.mp a2) hc.2 (R.e _ _ _ q)
      · cases h
    split at h
    · rename_i hx
      have := eq_of_beq hx
      subst this
      split at h
      · split at h
        · rename_i hc
          simp only [Bool.and_eq_true] at hc
          obtain ⟨a1, a2⟩ := bltOk_ok hc.1
          cases q : r.e sc a with
          | none => rw [q] at h; cases h
          | some fa => rw [q] at h; cases h; exact okIEnuA a1 (List.contains_iff_mem.mp a2) hc.2 (R.e _ _ _ q)
        · cases h
      · cases h
    exact val h
  · rename_i x p a b pos
    split at h
    · rename_i hx
      have := eq_of_beq hx
      subst this
      split at h
      · rename_i hc
        simp only [Bool.and_eq_true] at hc
        obtain ⟨a1, a2⟩ := bltOk_ok hc.1.1
        split at h
        · rename_i q1 q2
          cases h
          exact okIRng2 a1 (List.contains_iff_mem.mp a2) hc.1.2 hc.2 (R.e _ _ _ q1) (R.e _ _ _ q2)
        · cases h
      · cases h
    split at h
    · rename_i hx
      have := eq_of_beq hx
      subst this
      split at h
      · split at h
        · rename_i hc
          simp only [Bool.and_eq_true] at hc
          obtain ⟨a1, a2⟩ := bltOk_ok hc.1.1
          split at h
          · rename_i q1 q2
            cases h
            exact okIZip a1 (List.contains_iff_mem.mp a2) hc.1.2 hc.2 (R.e _ _ _ q1) (R.e _ _ _ q2)
          · cases h
        · cases h
      · cases h
    exact val h
  · exact val h
def rTs (r : Rec) (sc : Scope) : List Expr → Option ST
  | [] => some tYesT
  | [c] => r.t sc c
  | _ => none
theorem rTs_ok {r : Rec} (R : RecOk pg N r) {es : List Expr} {f : ST} (h : rTs r sc es = some f) : OkTs pg N sc es f := by
  unfold rTs at h
  split at h
  · cases h; exact okTsNil
  · exact okTsOne (R.t _ _ _ h)
  · cases h
def ownOf (N : List Str) (scope : Scope) : List (Str × Nat) := scope.names.filterMap fun y => match y.2 with
  | .local => (slot? N y.1).map fun i => (y.1, i)
  | .cell => (slot? N y.1).map fun i => (y.1, i)
  | _ => none
def rComp (pg : Pg) (N : List Str) (r : Rec) (sc : Scope) (elt : Expr) (gs : List Comprehension) (scope : Scope) : Option SE := match gs with
  | [⟨tg, iter, ifs, k⟩] => if k == 0 && blkC N sc scope (ownOf N scope) && notSet iter then (match rIter pg r sc tg iter, tgt (ownOk N scope) 5 tg, rTs r (relS scope sc) ifs, r.e (relS scope sc) elt with
    | some fi, some p, some t, some e => if ptIn ((ownOf N scope).map (·.2)) p then some (cComp fi ((ownOf N scope).map (·.2)) p t e) else none
    | _, _, _, _ => none) else none
  | _ => none
/-- what a comprehension's parts are -/
theorem rComp_in {r : Rec} (R : RecOk pg N r) {elt : Expr} {gs : List Comprehension} {scope : Scope} {f : SE} (h : rComp pg N r sc elt gs scope = some f) :
    ∃ tg iter ifs fi p t e, gs = [⟨tg, iter, ifs, 0⟩] ∧ f = cComp fi ((ownOf N scope).map (·.2)) p t e ∧ blkC N sc scope (ownOf N scope) = true ∧ notSet iter = true ∧ OkI pg N sc tg iter fi ∧ tgt (ownOk N scope) 5 tg = some p ∧
      ptIn ((ownOf N scope).map (·.2)) p = true ∧ OkTs pg N (relS scope sc) ifs t ∧ OkE pg N (relS scope sc) elt e := by
  unfold rComp at h
  split at h
  · rename_i tg iter ifs k
    split at h
    · rename_i hc
      simp only [Bool.and_eq_true] at hc
      have hk := eq_of_beq hc.1.1
      subst hk
      split at h
      · rename_i fi p t e h1 h2 h3 h4
        split at h
        · rename_i hp
          cases h
          exact ⟨tg, iter, ifs, fi, p, t, e, rfl, rfl, hc.1.2, hc.2, rIter_ok R h1, h2, hp, rTs_ok R h3, R.e _ _ _ h4⟩
        · cases h
      · cases h
    · cases h
  · cases h
/-! subscripts, the rest -/
def rO (r : Rec) (sc : Scope) : Option Expr → Option SO
  | none => some oNone
  | some e => (r.e sc e).map oSome
theorem rO_ok {r : Rec} (R : RecOk pg N r) {e : Option Expr} {f : SO} (h : rO r sc e = some f) : OkO pg N sc e f := by
  unfold rO at h
  split at h
  · cases h; exact okONone
  · rename_i e
    cases q : r.e sc e with
    | none => rw [q] at h; cases h
    | some fa => rw [q] at h; cases h; exact okOSome (R.e _ _ _ q)
def rSub (r : Rec) (sc : Scope) (a b : Expr) : Option SE := match b with
  | .Slice lo hi none _ => (match r.e sc a, rO r sc lo, rO r sc hi with
    | some f, some l, some h => some (cSl f l h)
    | _, _, _ => none)
  | .Slice none none (some (.UnaryOp .USub (.Constant (.int i) _ _) _)) _ => if i == 1 then (r.e sc a).map (cOp1 dBack) else none
  | .Slice _ _ (some _) _ => none
  | _ => (match r.e sc a, r.e sc b with
    | some f, some g => some (cOp2 dIx f g)
    | _, _ => none)
theorem rSub_ok {r : Rec} (R : RecOk pg N r) {a b : Expr} {pos : Pos} {f : SE} (h : rSub r sc a b = some f) : OkE pg N sc (.Subscript a b pos) f := by
  unfold rSub at h
  split at h
  · split at h
    · rename_i q1 q2 q3
      cases h
      exact okSl (R.e _ _ _ q1) (rO_ok R q2) (rO_ok R q3)
    · cases h
  · split at h
    · rename_i hi
      have := eq_of_beq hi
      subst this
      cases q : r.e sc a with
      | none => rw [q] at h; cases h
      | some fa => rw [q] at h; cases h; exact okBack (R.e _ _ _ q)
    · cases h
  · cases h
  · rename_i n1 n0 n2
    split at h
    · rename_i q1 q2
      cases h
      refine okIx ?_ (R.e _ _ _ q1) (R.e _ _ _ q2)
      cases b <;> first | rfl | skip
      rename_i lo hi st p
      cases st with
      | none => exact absurd rfl (n1 lo hi p)
      | some z => exact absurd rfl (n2 lo hi z p)
    · cases h
def rDict (r : Rec) (sc : Scope) (keys : List (Option Expr)) (values : List Expr) : Option SE := match keys, values with
  | [], [] => some (cOpn (gDic []) aNil)
  | k :: keys, vs => (match keysE (k :: keys), mapO (r.e sc) vs with
    | some ks, some fs => if nodupB ks && decide ((k :: keys).length = vs.length) && decide ((k :: keys).length ≤ 15) then some (cOpn (gDic ks) (fs.foldr aCons aNil)) else none
    | _, _ => none)
  | _, _ => none
theorem rDict_ok {r : Rec} (R : RecOk pg N r) {keys : List (Option Expr)} {values : List Expr} {pos : Pos} {f : SE} (h : rDict r sc keys values = some f) : OkE pg N sc (.Dict keys values pos) f := by
  unfold rDict at h
  split at h
  · cases h; exact okDic0
  · split at h
    · rename_i k keys vs ks fs h1 h2
      split at h
      · rename_i hc
        simp only [Bool.and_eq_true, decide_eq_true_eq] at hc
        cases h
        exact okDic h1 hc.1.1 hc.1.2 (by simp) hc.2 (mapO_len h2) fun i e f a b => R.e _ _ _ (mapO_get h2 i e f a b)
      · cases h
    · cases h
  · cases h
def rHeard (pg : Pg) (r : Rec) (sc : Scope) (params : Arguments) (body : Expr) (scope : Scope) : Option SE := match pg.me, r.l scope body with
  | some n, some f => if glB sc "_law_heard" && noPar params && LamX.lamSB sc scope then some (cHeard pg.excs n f) else none
  | _, _ => none
theorem rHeard_ok {r : Rec} (R : RecOk pg N r) {params : Arguments} {body : Expr} {scope : Scope} {p lpos pos : Pos} {f : SE} (h : rHeard pg r sc params body scope = some f) : OkE pg N sc (.Call (.Name "_law_heard" p) [.Lambda params body scope lpos] [] pos) f := by
  unfold rHeard at h
  split at h
  · rename_i n fb h1 h2
    split at h
    · rename_i hc
      simp only [Bool.and_eq_true] at hc
      cases h
      exact okHeard h1 hc.1.1 hc.1.2 hc.2 (R.l _ _ _ h2)
    · cases h
  · cases h
/-- a call by a name -/
def rCallN (pg : Pg) (r : Rec) (sc : Scope) (x : Str) (es : List Expr) : Option SE := match es with
  | [.Lambda params body scope _] => if x == ("_law_heard" : Str) then rHeard pg r sc params body scope else none
  | es => rCall pg r sc x es
theorem rCallN_ok {r : Rec} (R : RecOk pg N r) {x : Str} {es : List Expr} {p pos : Pos} {f : SE} (h : rCallN pg r sc x es = some f) : OkE pg N sc (.Call (.Name x p) es [] pos) f := by
  unfold rCallN at h
  split at h
  · split at h
    · rename_i hx
      have := eq_of_beq hx
      subst this
      exact rHeard_ok R h
    · cases h
  · exact rCall_ok R h
def stepE (pg : Pg) (N : List Str) (r : Rec) (sc : Scope) : Expr → Option SE
  | .Name x _ => rName pg N sc x
  | .Constant c _ _ => rConst c
  | .BinOp a op b _ => (match binG op, r.e sc a, r.e sc b with
    | some g, some f, some h => some (cOp2 g f h)
    | _, _, _ => none)
  | .UnaryOp .USub a _ => (r.e sc a).map (cOp1 dNeg)
  | .UnaryOp .Not a _ => (r.e sc a).map (cOp1 gNot)
  | .BoolOp op es _ => (mapO (r.e sc) es).bind (boolE op)
  | .Compare a ops cs _ => rCmp pg r sc a ops cs
  | .IfExp c a b _ => (match r.t sc c, r.e sc a, r.e sc b with
    | some t, some f, some g => some (cIf t f g)
    | _, _, _ => none)
  | .Tuple es _ _ => (rAs r sc es).map (cOpn gTupN)
  | .List es _ => (rAs r sc es).map (cOpn gLstN)
  | .Subscript a b _ => rSub r sc a b
  | .Call (.Name x _) es [] _ => rCallN pg r sc x es
  | .ListComp elt gs scope _ => rComp pg N r sc elt gs scope
  | .Call (.Attribute o m apos) es [] pos => rMeth pg r sc o m es apos pos
  | .Attribute e x _ => if notCallE e then (r.e sc e).map (cOp1 (gAttr pg x)) else none
  | .Dict ks vs _ => rDict r sc ks vs
  | _ => none
def stepT (pg : Pg) (N : List Str) (r : Rec) (sc : Scope) (e : Expr) : Option ST := match e with
  | .UnaryOp .Not a _ => (r.t sc a).map tNotT
  | .BoolOp op es _ => (mapO (r.t sc) es).bind (boolT op)
  | .Compare a ops cs _ => (rCmp pg r sc a ops cs).map tBl
  | .IfExp .. => none
  | e => (r.e sc e).map tVal
def step (pg : Pg) (N : List Str) (r : Rec) : Rec := ⟨stepE pg N r, stepT pg N r, r.l⟩
def compW (pg : Pg) (N : List Str) (l : Scope → Expr → Option SE) : Nat → Rec
  | 0 => ⟨fun _ _ => none, fun _ _ => none, l⟩
  | n + 1 => step pg N (compW pg N l n)
def comp (pg : Pg) (N : List Str) (n : Nat) : Rec := compW pg N (fun sc e => (compW pg.off N (fun _ _ => none) n).e sc e) n
theorem stepE_ok {r : Rec} (R : RecOk pg N r) {e : Expr} {f : SE} (h : stepE pg N r sc e = some f) : OkE pg N sc e f := by
  have one : ∀ {a : Expr} {g : SE → SE} {f : SE}, (r.e sc a).map g = some f → ∃ fa, f = g fa ∧ OkE pg N sc a fa := fun {a g f} h => by
    cases q : r.e sc a with
    | none => rw [q] at h; cases h
    | some fa => rw [q] at h; cases h; exact ⟨fa, rfl, R.e _ _ _ q⟩
  unfold stepE at h
  split at h
  · exact rName_ok h
  · exact rConst_ok h
  · split at h
    · rename_i q1 q2 q3
      cases h
      exact okBin (binG_ok q1) (R.e _ _ _ q2) (R.e _ _ _ q3)
    · cases h
  · obtain ⟨fa, rfl, o⟩ := one h
    exact okUn (fun X => unNeg) o
  · obtain ⟨fa, rfl, o⟩ := one h
    exact okNot o
  · rename_i op es pos
    cases q : mapO (r.e sc) es with
    | none => rw [q] at h; cases h
    | some fs => rw [q] at h; exact boolE_ok R q h
  · exact (rCmp_ok R h).1
  · split at h
    · rename_i q1 q2 q3
      cases h
      exact okIf (R.t _ _ _ q1) (R.e _ _ _ q2) (R.e _ _ _ q3)
    · cases h
  · rename_i es k pos
    cases q : rAs r sc es with
    | none => rw [q] at h; cases h
    | some fs => rw [q] at h; cases h; exact okTup (rAs_ok R q)
  · rename_i es pos
    cases q : rAs r sc es with
    | none => rw [q] at h; cases h
    | some fs => rw [q] at h; cases h; exact okLst (rAs_ok R q)
  · exact rSub_ok R h
  · exact rCallN_ok R h
  · obtain ⟨tg, iter, ifs, fi, p, t, e, rfl, rfl, h1, h2, h3, h4, h5, h6, h7⟩ := rComp_in R h
    exact okLc h1 h2 h3 h4 h5 h6 h7
  · exact rMeth_ok R h
  · split at h
    · rename_i hc
      obtain ⟨fa, rfl, o⟩ := one h
      exact okAttr hc o
    · cases h
  · exact rDict_ok R h
  · cases h
theorem stepT_ok {r : Rec} (R : RecOk pg N r) {e : Expr} {f : ST} (h : stepT pg N r sc e = some f) : OkT pg N sc e f := by
  unfold stepT at h
  split at h
  · rename_i a pos
    cases q : r.t sc a with
    | none => rw [q] at h; cases h
    | some fa => rw [q] at h; cases h; exact okTNot (R.t _ _ _ q)
  · rename_i op es pos
    cases q : mapO (r.t sc) es with
    | none => rw [q] at h; cases h
    | some fs => rw [q] at h; exact (boolT_ok R q h).t
  · rename_i a ops cs pos
    cases q : rCmp pg r sc a ops cs with
    | none => rw [q] at h; cases h
    | some fa => rw [q] at h; cases h; exact (rCmp_ok R q).2
  · cases h
  · rename_i n1 n2 n3 n4
    cases q : r.e sc e with
    | none => rw [q] at h; cases h
    | some fa =>
      rw [q] at h; cases h
      refine okTVal ?_ (R.e _ _ _ q)
      cases e <;> first | rfl | skip
      · rename_i op es p; exact absurd rfl (n2 op es p)
      · rename_i op a p
        cases op <;> first | rfl | exact absurd rfl (n1 a p)
      · rename_i a b c p; exact absurd rfl (n4 a b c p)
      · rename_i a b c p; exact absurd rfl (n3 a b c p)
theorem compW_ok {pg : Pg} {l : Scope → Expr → Option SE} (hl : ∀ sc e f, l sc e = some f → OkE pg.off N sc e f) (n : Nat) : RecOk pg N (compW pg N l n) := by
  induction n with
  | zero => exact ⟨fun _ _ _ h => (by cases h), fun _ _ _ h => (by cases h), hl⟩
  | succ n ih => exact ⟨fun _ _ _ h => stepE_ok ih h, fun _ _ _ h => stepT_ok ih h, ih.l⟩
theorem comp_ok (n : Nat) : RecOk pg N (comp pg N n) := compW_ok (fun _ _ _ h => (compW_ok (pg := pg.off) (l := fun _ _ => none) (fun _ _ _ z => by cases z) n).e _ _ _ h) n
end
end EV

namespace EV
open PySem PySem.Spec PyProof.Rows L2

/-! ### from the text to the combinators: statements -/
/-- the names in an expression -/
def nmE : Nat → Expr → List Str
  | 0, _ => []
  | n + 1, e => match e with
    | .Name x _ => [x]
    | .BoolOp _ es _ => es.flatMap (nmE n)
    | .BinOp a _ b _ => nmE n a ++ nmE n b
    | .UnaryOp _ a _ => nmE n a
    | .IfExp a b c _ => nmE n a ++ nmE n b ++ nmE n c
    | .Dict ks vs _ => (ks.filterMap id).flatMap (nmE n) ++ vs.flatMap (nmE n)
    | .Set es _ _ => es.flatMap (nmE n)
    | .ListComp e gs _ _ => nmE n e ++ gs.flatMap fun g => nmE n g.iter ++ g.ifs.flatMap (nmE n)
    | .SetComp e gs _ _ => nmE n e ++ gs.flatMap fun g => nmE n g.iter ++ g.ifs.flatMap (nmE n)
    | .DictComp k v gs _ _ => nmE n k ++ nmE n v ++ gs.flatMap fun g => nmE n g.iter ++ g.ifs.flatMap (nmE n)
    | .Compare a _ cs _ => nmE n a ++ cs.flatMap (nmE n)
    | .Call f es _ _ => nmE n f ++ es.flatMap (nmE n)
    | .Lambda _ e _ _ => nmE n e
    | .Attribute e _ _ => nmE n e
    | .Subscript a b _ => nmE n a ++ nmE n b
    | .Starred e _ => nmE n e
    | .List es _ => es.flatMap (nmE n)
    | .Tuple es _ _ => es.flatMap (nmE n)
    | .Slice a b c _ => (match a with | some a => nmE n a | none => []) ++ (match b with | some b => nmE n b | none => []) ++ (match c with | some c => nmE n c | none => [])
    | _ => []
def mentE (N : List Str) (e : Expr) : List Nat := ((nmE 40 e).filterMap (slot? N)).eraseDups
structure SRec where
  s : Stmt → Option SS
  b : List Stmt → Option SS
section
variable {pg : Pg} {N : List Str} {sc : Scope}
structure SRecOk (pg : Pg) (N : List Str) (sc : Scope) (q : SRec) : Prop where
  b : ∀ ss f, q.b ss = some f → OkSs pg N sc ss f
  s : ∀ st f, q.s st = some f → OkS pg N sc st f
def rAppend (N : List Str) (sc : Scope) (r : Rec) (x m : Str) (e : Expr) (apos cpos : Pos) : Option SS :=
  if visB sc x && plainName x && (apos.endLine == cpos.line) && noStar e then (match slot? N x, r.e sc e with
    | some k, some f => if m == ("append" : Str) then some (sApp k (mentE N e) f) else if m == ("extend" : Str) then some (sExt k (mentE N e) f) else none
    | _, _ => none) else none
theorem rAppend_ok {r : Rec} (R : RecOk pg N r) {x m : Str} {e : Expr} {np apos cpos spos : Pos} {f : SS} (h : rAppend N sc r x m e apos cpos = some f) : OkS pg N sc (.Expr (.Call (.Attribute (.Name x np) m apos) [e] [] cpos) spos) f := by
  unfold rAppend at h
  split at h
  · rename_i hc
    simp only [Bool.and_eq_true] at hc
    split at h
    · rename_i k fe q1 q2
      split at h
      · rename_i hm
        have := eq_of_beq hm
        subst this
        cases h
        exact okApp q1 hc.1.1.1 hc.1.1.2 hc.1.2 hc.2 (R.e _ _ _ q2)
      split at h
      · rename_i hm
        have := eq_of_beq hm
        subst this
        cases h
        exact okExt q1 hc.1.1.1 hc.1.1.2 hc.1.2 hc.2 (R.e _ _ _ q2)
      cases h
    · cases h
  · cases h
def isFnS (sc : Scope) : Bool := match sc.kind with
  | .function => true
  | _ => false
theorem isFnS_ok (h : isFnS sc = true) : sc.kind = .function := by
  unfold isFnS at h
  split at h
  · assumption
  · cases h
def rAppPop (N : List Str) (sc : Scope) (r : Rec) (x y : Str) (e : Expr) (apos apos2 cpos cpos2 : Pos) : Option SS :=
  if visB sc x && plainName x && visB sc y && plainName y && (apos.endLine == cpos.line) && (apos2.endLine == cpos2.line) && noStar e then (match slot? N x, slot? N y, r.e sc e with
    | some ka, some kb, some f => some (sAppPop ka kb (mentE N e) f)
    | _, _, _ => none) else none
theorem rAppPop_ok {r : Rec} (R : RecOk pg N r) {x y : Str} {e : Expr} {np np2 apos apos2 cpos cpos2 spos : Pos} {f : SS} (h : rAppPop N sc r x y e apos apos2 cpos cpos2 = some f) :
    OkS pg N sc (.Expr (.Call (.Attribute (.Name x np) "append" apos) [.Call (.Attribute (.Name y np2) "pop" apos2) [e] [] cpos2] [] cpos) spos) f := by
  unfold rAppPop at h
  split at h
  · rename_i hc
    simp only [Bool.and_eq_true] at hc
    obtain ⟨⟨⟨⟨⟨⟨c1, c2⟩, c3⟩, c4⟩, c5⟩, c6⟩, c7⟩ := hc
    split at h
    · rename_i q1 q2 q3
      cases h
      exact okAppPop q1 q2 c1 c2 c3 c4 c5 c6 c7 (R.e _ _ _ q3)
    · cases h
  · cases h
/-- two readings of one statement -/
def sEither (t : SEn → Bool) (f g : SS) : SS := fun ca ρ S => match t ρ with
  | true => f ca ρ S
  | false => g ca ρ S
theorem okEither {st : Stmt} {t : SEn → Bool} {f g : SS} (hf : OkS pg N sc st f) (hg : OkS pg N sc st g) : OkS pg N sc st (sEither t f g) := fun X ca lev E F0 H0 m0 C => by
  refine ⟨fun pins s σ H Dn I ⟨ρ, S, F, m, gr, se, q⟩ => ?_⟩
  unfold sEither at q
  cases e : t ρ with
  | true => rw [e] at q; exact (hf X ca lev E F0 H0 m0 C).run pins s σ H Dn I ⟨ρ, S, F, m, gr, se, q⟩
  | false => rw [e] at q; exact (hg X ca lev E F0 H0 m0 C).run pins s σ H Dn I ⟨ρ, S, F, m, gr, se, q⟩
def oB (xs : List Str) : Option (List Str) → Bool
  | none => true
  | some ys => decide (ys = xs)
def rPar (N : List Str) (sc : Scope) (r : Rec) (ts vs : List Expr) : Option SS := match tgNames ts with
  | some xs => (match slotsB N sc xs, mapO (r.e sc) vs, swB sc ts vs with
    | some is, some fs, some o => if isFnS sc && nodupN is && decide (is.length ≤ 100) && vs.all noStar && decide (vs.length = is.length) && oB xs o then some (sPar is ((vs.map (mentE N)).zip fs)) else none
    | _, _, _ => none)
  | none => none
theorem rPar_ok {r : Rec} (R : RecOk pg N r) {ts vs : List Expr} {kt k2 : Nat} {pt p2 pos : Pos} {f : SS} (h : rPar N sc r ts vs = some f) : OkS pg N sc (.Assign [.Tuple ts kt pt] (.Tuple vs k2 p2) pos) f := by
  unfold rPar at h
  split at h
  · rename_i xs hx
    split at h
    · rename_i is fs o h1 h2 h3
      split at h
      · rename_i hc
        simp only [Bool.and_eq_true, decide_eq_true_eq] at hc
        obtain ⟨⟨⟨⟨⟨c1, c2⟩, c3⟩, c4⟩, c5⟩, c6⟩ := hc
        cases h
        have l2 := mapO_len h2
        refine okPar (isFnS_ok c1) hx h1 c2 c3 c4 (by simp [l2]) h3 ?_ c5 fun i e p a b => ?_
        · cases o with
          | none => exact .inl rfl
          | some ys => exact .inr (congrArg some (of_decide_eq_true c6))
        · have hb := List.getElem?_zip_eq_some.mp b
          exact R.e _ _ _ (mapO_get h2 i e p.2 a hb.2)
      · cases h
    · cases h
  · cases h
def rAsg (N : List Str) (sc : Scope) (r : Rec) (ts : List Expr) (kt : Nat) (pt : Pos) (e : Expr) : Option SS := if notComp e && notTup e then (match tgt (locOk N sc) 5 (.Tuple ts kt pt), r.e sc e with
  | some p, some f => some (sAsg p (mentE N e) f)
  | _, _ => none) else none
theorem rAsg_ok {r : Rec} (R : RecOk pg N r) {ts : List Expr} {kt : Nat} {pt pos : Pos} {e : Expr} {f : SS} (h : rAsg N sc r ts kt pt e = some f) : OkS pg N sc (.Assign [.Tuple ts kt pt] e pos) f := by
  unfold rAsg at h
  split at h
  · rename_i hc
    simp only [Bool.and_eq_true] at hc
    split at h
    · rename_i q1 q2
      cases h
      exact okAsg q1 hc.1 hc.2 (R.e _ _ _ q2)
    · cases h
  · cases h
def ownLst (k : Nat) (ρ : SEn) : Bool := match ρ[k]? with
  | some (some (_, true)) => true
  | _ => false
def rForIx (N : List Str) (sc : Scope) (r : Rec) (x : Str) (ie tg : Expr) (f g : SS) : SS := if visB sc x && plainName x && notSlice ie then (match slot? N x, r.e sc ie, tgt (locOk N sc) 5 tg with
  | some k, some fi, some p => sEither (ownLst k) (sForIx k (mentE N ie) fi p f) g
  | _, _, _ => g) else g
theorem rForIx_ok {r : Rec} (R : RecOk pg N r) {x : Str} {ie tg : Expr} {body : List Stmt} {f g : SS} {np ip pos : Pos} (hf : OkSs pg N sc body f) (hg : OkS pg N sc (.For tg (.Subscript (.Name x np) ie ip) body [] pos) g) :
    OkS pg N sc (.For tg (.Subscript (.Name x np) ie ip) body [] pos) (rForIx N sc r x ie tg f g) := by
  unfold rForIx
  split
  · rename_i hc
    simp only [Bool.and_eq_true] at hc
    split
    · rename_i q1 q2 q3
      exact okEither (okForIx q1 hc.1.1 hc.1.2 hc.2 (R.e _ _ _ q2) q3 hf) hg
    · exact hg
  · exact hg
def rExprS (N : List Str) (sc : Scope) (r : Rec) (e : Expr) : Option SS :=
  if notComp e then (r.e sc e).map (sExpr (mentE N e)) else none
theorem rExprS_ok {r : Rec} (R : RecOk pg N r) {e : Expr} {pos : Pos} {f : SS} (h : rExprS N sc r e = some f) : OkS pg N sc (.Expr e pos) f := by
  unfold rExprS at h
  split at h
  · rename_i hc
    cases q : r.e sc e with
    | none => rw [q] at h; cases h
    | some fa => rw [q] at h; cases h; exact okExpr hc (R.e _ _ _ q)
  · cases h
/-- name = e; cn: the names of what is to be a cell -/
def rSetS (pg : Pg) (N cn : List Str) (sc : Scope) (r : Rec) (x : Str) (e : Expr) : Option SS :=
  if locB sc x then (match slot? N x with
    | some i => (match e with
      | .ListComp elt gs scope _ => if isFnS sc then (rComp pg N r sc elt gs scope).map (sSet i (mentE N e)) else none
      | e => if notComp e then (match r.e sc e with
        | some f => if cn.contains x then some (sSetC i (mentE N e) f) else some (sSet i (mentE N e) f)
        | none => none) else none)
    | none => none) else none
theorem rSetS_ok {r : Rec} (R : RecOk pg N r) {cn : List Str} {x : Str} {e : Expr} {np pos : Pos} {f : SS} (h : rSetS pg N cn sc r x e = some f) : OkS pg N sc (.Assign [.Name x np] e pos) f := by
  unfold rSetS at h
  split at h
  · rename_i hl
    split at h
    · rename_i i hi
      split at h
      · rename_i elt gs scope p
        split at h
        · rename_i hk
          cases q : rComp pg N r sc elt gs scope with
          | none => rw [q] at h; cases h
          | some fc =>
            rw [q] at h; cases h
            obtain ⟨tg, iter, ifs, fi, p, t, e, rfl, rfl, h1, h2, h3, h4, h5, h6, h7⟩ := rComp_in R q
            exact okSetLc (isFnS_ok hk) hi hl h1 h2 h3 h4 h5 h6 h7
        · cases h
      · split at h
        · rename_i hn
          split at h
          · rename_i fe q
            split at h
            · cases h; exact okSetC hi hl hn (R.e _ _ _ q)
            · cases h; exact okSet hi hl hn (R.e _ _ _ q)
          · cases h
        · cases h
    · cases h
  · cases h
def rSetIx (N : List Str) (sc : Scope) (r : Rec) (x : Str) (i e : Expr) : Option SS :=
  if visB sc x && plainName x && notSlice i then (match slot? N x, r.e sc e, r.e sc i with
    | some k, some f, some g => some (sSetIx k (mentE N e) f (mentE N i) g)
    | _, _, _ => none) else none
theorem rSetIx_ok {r : Rec} (R : RecOk pg N r) {x : Str} {i e : Expr} {np tpos spos : Pos} {f : SS} (h : rSetIx N sc r x i e = some f) : OkS pg N sc (.Assign [.Subscript (.Name x np) i tpos] e spos) f := by
  unfold rSetIx at h
  split at h
  · rename_i hc
    simp only [Bool.and_eq_true] at hc
    split at h
    · rename_i q1 q2 q3
      cases h
      exact okSetIx q1 hc.1.1 hc.1.2 hc.2 (R.e _ _ _ q2) (R.e _ _ _ q3)
    · cases h
  · cases h
def stepS (pg : Pg) (N cn : List Str) (sc : Scope) (r : Rec) (q : SRec) : Stmt → Option SS
  | .Pass _ => some sPass
  | .Expr e _ => (match e with
    | .Call (.Attribute (.Name x _) m apos) [a] [] cpos => (match a with
      | .Call (.Attribute (.Name y _) m2 apos2) [b] [] cpos2 => if m == ("append" : Str) && m2 == ("pop" : Str) then rAppPop N sc r x y b apos apos2 cpos cpos2 else rAppend N sc r x m a apos cpos
      | a => rAppend N sc r x m a apos cpos)
    | e => rExprS N sc r e)
  | .Assign [.Name x _] e _ => rSetS pg N cn sc r x e
  | .Assign [.Subscript (.Name x _) i _] e _ => rSetIx N sc r x i e
  | .Assign [.Tuple ts kt pt] e _ => (match e with
    | .Tuple vs _ _ => rPar N sc r ts vs
    | e => rAsg N sc r ts kt pt e)
  | .Raise (some (.Call (.Name x _) [e] [] _)) none _ => if pg.excs.contains x && glB sc x && plainName x && noStar e then (r.e sc e).map (sRaise (mentE N e) x) else some sNo
  | .Raise .. => some sNo
  | .Return (some e) _ => (r.e sc e).map (sRet (mentE N e))
  | .Return none _ => some sRetN
  | .If c a b _ => (match r.t sc c, q.b a, q.b b with
    | some t, some f, some g => some (sIf (mentE N c) t f g)
    | _, _, _ => none)
  | .For tg it body [] _ => if notSet it then (match rIter pg r sc tg it, tgt (locOk N sc) 5 tg, q.b body with
    | some fi, some p, some f => some (match it with
      | .Subscript (.Name x _) ie _ => rForIx N sc r x ie tg f (sFor (mentE N it) fi p f)
      | it => sFor (mentE N it) fi p f)
    | _, _, _ => none) else none
  | _ => none
def blockS (s : Stmt → Option SS) : List Stmt → Option SS
  | [] => some sPass
  | [st] => s st
  | st :: sts => match s st, blockS s sts with
    | some f, some g => some (sSeq f g)
    | _, _ => none
def compS (pg : Pg) (N cn : List Str) (sc : Scope) (r : Rec) : Nat → SRec
  | 0 => ⟨fun _ => none, fun _ => none⟩
  | n + 1 => ⟨stepS pg N cn sc r (compS pg N cn sc r n), blockS (stepS pg N cn sc r (compS pg N cn sc r n))⟩
theorem stepS_ok {cn : List Str} {r : Rec} (R : RecOk pg N r) {q : SRec} (Q : SRecOk pg N sc q) {st : Stmt} {f : SS} (h : stepS pg N cn sc r q st = some f) : OkS pg N sc st f := by
  unfold stepS at h
  split at h
  · cases h; exact okPass
  · split at h
    · split at h
      · split at h
        · rename_i hm
          simp only [Bool.and_eq_true] at hm
          have e1 := eq_of_beq hm.1
          have e2 := eq_of_beq hm.2
          subst e1 e2
          exact rAppPop_ok R h
        · exact rAppend_ok R h
      · exact rAppend_ok R h
    · exact rExprS_ok R h
  · exact rSetS_ok R h
  · exact rSetIx_ok R h
  · split at h
    · exact rPar_ok R h
    · exact rAsg_ok R h
  · split at h
    · rename_i x p e pos pos' hc
      simp only [Bool.and_eq_true] at hc
      cases z : r.e sc e with
      | none => rw [z] at h; cases h
      | some fa => rw [z] at h; cases h; exact okRaise hc.1.1.1 hc.1.1.2 hc.1.2 hc.2 (R.e _ _ _ z)
    · cases h; exact okNo
  · cases h; exact okNo
  · rename_i e pos
    cases z : r.e sc e with
    | none => rw [z] at h; cases h
    | some fa => rw [z] at h; cases h; exact okRet (R.e _ _ _ z)
  · cases h; exact okRetN
  · split at h
    · rename_i z1 z2 z3
      cases h
      exact okIfS (R.t _ _ _ z1) (Q.b _ _ z2) (Q.b _ _ z3)
    · cases h
  · split at h
    · rename_i hn
      split at h
      · rename_i z1 z2 z3
        cases h
        split
        · exact rForIx_ok R (Q.b _ _ z3) (okFor hn (rIter_ok R z1) z2 (Q.b _ _ z3))
        · exact okFor hn (rIter_ok R z1) z2 (Q.b _ _ z3)
      · cases h
    · cases h
  · cases h
theorem blockS_ok {s : Stmt → Option SS} (hs : ∀ st f, s st = some f → OkS pg N sc st f) : ∀ {ss : List Stmt} {f : SS}, blockS s ss = some f → OkSs pg N sc ss f
  | [], f, h => by cases h; exact okSsNil
  | [st], f, h => okSsOne (hs _ _ h)
  | st :: st2 :: sts, f, h => by
    unfold blockS at h
    split at h
    · rename_i f1 g h1 h2
      cases h
      exact okSsCons (hs _ _ h1) (blockS_ok hs h2)
    · cases h
theorem compS_ok {cn : List Str} {r : Rec} (R : RecOk pg N r) (n : Nat) : SRecOk pg N sc (compS pg N cn sc r n) := by
  induction n with
  | zero => exact ⟨fun _ _ h => (by cases h), fun _ _ h => (by cases h)⟩
  | succ n ih => exact ⟨fun _ _ h => blockS_ok (fun _ _ z => stepS_ok R ih z) h, fun _ _ h => stepS_ok R ih h⟩
/-- a def's body -/
def compD (pg : Pg) (N cn : List Str) (sc : Scope) (body : List Stmt) : Option SS := (compS pg N cn sc (comp pg N 40) 12).b body
theorem compD_ok {cn : List Str} {body : List Stmt} {f : SS} (h : compD pg N cn sc body = some f) : OkSs pg N sc body f := (compS_ok (comp_ok 40) 12).b body f h
end
end EV
namespace EV
open PySem PySem.Spec PyProof.Rows L2
/-! ### __init__ -/
section
variable {pg : Pg} {N : List Str} {sc : Scope}
def setOf (r : Rec) (sc : Scope) : Stmt → Option (Str × SE)
  | .Assign [.Attribute (.Name x _) f _] e _ => if x == ("self" : Str) && notComp e then (r.e sc e).map fun g => (f, g) else none
  | _ => none
def compSets (r : Rec) (sc : Scope) : List Stmt → Option (List Str × List SE)
  | [] => some ([], [])
  | st :: sts => match setOf r sc st, compSets r sc sts with
    | some (f, e), some (fs, es) => some (f :: fs, e :: es)
    | _, _ => none
theorem compSets_ok {r : Rec} (R : RecOk pg N r) : ∀ {sts : List Stmt} {fs : List Str} {es : List SE}, compSets r sc sts = some (fs, es) → SetsOk pg N sc sts fs es
  | [], fs, es, h => by cases h; exact .nil
  | st :: sts, fs, es, h => by
    unfold compSets at h
    split at h
    · rename_i f e fs' es' h1 h2
      cases h
      have ih := compSets_ok R h2
      unfold setOf at h1
      split at h1
      · rename_i x np f2 ap e2 p
        split at h1
        · rename_i hc
          simp only [Bool.and_eq_true] at hc
          have := eq_of_beq hc.1
          subst this
          cases q : r.e sc e2 with
          | none => rw [q] at h1; cases h1
          | some g => rw [q] at h1; cases h1; exact .cons hc.2 (R.e _ _ _ q) ih
        · cases h1
      · cases h1
    · cases h
def compI (r : Rec) (sc : Scope) (s : Stmt → Option SS) : List Stmt → Option (List SS × List Str × List SE)
  | [] => some ([], [], [])
  | st :: sts => match compSets r sc (st :: sts) with
    | some (fs, es) => some ([], fs, es)
    | none => match s st, compI r sc s sts with
      | some f, some (ps, fs, es) => some (f :: ps, fs, es)
      | _, _ => none
theorem compI_ok {r : Rec} (R : RecOk pg N r) {s : Stmt → Option SS} (hs : ∀ st f, s st = some f → OkS pg N sc st f) : ∀ {sts : List Stmt} {ps : List SS} {fs : List Str} {es : List SE}, compI r sc s sts = some (ps, fs, es) → ∃ pre sets, sts = pre ++ sets ∧ PresOk pg N sc pre ps ∧ SetsOk pg N sc sets fs es
  | [], ps, fs, es, h => by cases h; exact ⟨[], [], rfl, .nil, .nil⟩
  | st :: sts, ps, fs, es, h => by
    unfold compI at h
    split at h
    · rename_i fs' es' h1
      cases h
      exact ⟨[], st :: sts, rfl, .nil, compSets_ok R h1⟩
    · split at h
      · rename_i f ps' fs' es' h1 h2
        cases h
        obtain ⟨pre, sets, e, p1, p2⟩ := compI_ok R hs h2
        exact ⟨st :: pre, sets, by rw [e]; rfl, .cons (hs _ _ h1) p1, p2⟩
      · cases h
def compIn (pg : Pg) (N cn : List Str) (sc : Scope) (body : List Stmt) : Option (List SS × List Str × List SE) := compI (comp pg N 40) sc (compS pg N cn sc (comp pg N 40) 12).s body
theorem compIn_ok {cn : List Str} {body : List Stmt} {ps : List SS} {fs : List Str} {es : List SE} (h : compIn pg N cn sc body = some (ps, fs, es)) : ∃ pre sets, body = pre ++ sets ∧ PresOk pg N sc pre ps ∧ SetsOk pg N sc sets fs es :=
  compI_ok (comp_ok 40) (fun st f z => (compS_ok (comp_ok 40) 12).s st f z) h
end
end EV

namespace EV
open PySem PySem.Spec PyProof.Rows L2

/-! ### calls -/
/-- a def as a function on data: its parameters, its slots, its body -/
structure Fd where
  n : Nat
  N : Nat
  f : SS
inductive Bd where
  | fn (g : Fd)
  | ini (c : Str) (flds : List Str) (n N : Nat) (pres : List SS) (es : List SE)
def endF (fl : Fl) (S : Cells) : R B := match fl with
  | .rt b => .ok b S
  | .nx _ => .ok (.non, false) S
  | _ => .no
def runF (g : Fd) (ca : Ca) (ds : List D) (S : Cells) : R B := if ds.length = g.n then (g.f ca (initE g.N ds) S).bind endF else .no
def runB (b : Bd) (ca : Ca) (ds : List D) (S : Cells) : R B := match b with
  | .fn g => runF g ca ds S
  | .ini c flds n N pres es => runI c flds n N pres es ca ds S
def caF (tab : Fk → Option Bd) : Nat → Ca
  | 0 => fun _ _ _ => .no
  | k + 1 => fun fk ds S => match tab fk with
    | some g => runB g (caF tab k) ds S
    | none => .no
/-- compiled as the body of the def named x -/
def Pg.at (pg : Pg) (x : Str) : Pg := { pg with me := if pg.mks.contains x then some x else none }
theorem PgOk.at {P : Program} {w : World} {K : PySem.W.Frag} {mg : Str → Option Value} {base : Heap} {pg : Pg} {ca : Ca} {lev : Nat} (h : PgOk P w K mg base pg ca lev) (x : Str) : PgOk P w K mg base (pg.at x) ca lev :=
  ⟨h.fn, h.con, h.blt, h.exc, h.sub, h.ve, h.sys, h.lev2, h.cls, h.tb, h.hrd⟩
theorem Pg.at_ex {pg : Pg} {x : Str} : (pg.at x).ex ≤ 2 := by
  unfold Pg.ex
  split <;> omega
structure ClFix (P : Program) (w : World) (K : PySem.W.Frag) (mg : Str → Option Value) (pg : Pg) (tab : Fk → Option Bd) (c : Str) (i : ClI) : Prop where
  mgC : mg c = some (.ref (He.ga K c))
  cl : Cls K (He.ga K c)
  made : ∃ (N : List Str) (f : Addr) (fd : FuncData) (name qual : Str) (params : Arguments) (pre sets : List Stmt) (scope : Scope) (dvs : List V) (kws : List (Str × V)) (pres : List SS) (es : List SE), Mk K (He.ga K c) f ∧ FunD K name qual params (pre ++ sets) scope dvs kws f fd ∧ FnScope N ("self" :: i.ps) scope ∧
    visB scope "self" = true ∧ PresOk pg N scope pre pres ∧ SetsOk pg N scope sets i.fs es ∧ i.fs.Nodup ∧ i.fs.length ≤ 900 ∧ tab (c, some "__init__") = some (.ini c i.fs i.ps.length N.length pres es) ∧ Binds K fd ("self" :: i.ps) []
  fld : ∀ f, f ∈ i.fs → NoAttr K (He.ga K c) f
  prop : ∀ x f, i.props.lookup x = some f → ∀ base : Heap, ∃ p g fd, PropOf K (He.ga K c) x p g ∧ FnOk P w K mg base (CX P w) 1 g fd ["self"] (getSp (He.ga K c) f) ∧ Binds K fd ["self"] []
  mt : ∀ x fi, i.mts.lookup x = some fi → ∃ (N : List Str) (f : Addr) (fd : FuncData) (name qual : Str) (params : Arguments) (body : List Stmt) (scope : Scope) (dvs : List V) (kws : List (Str × V)) (g : SS), Meth K (He.ga K c) x f ∧ FunD K name qual params body scope dvs kws f fd ∧ FnScope N fi.ps scope ∧ OkSs pg N scope body g ∧
    tab (c, some x) = some (.fn ⟨fi.ps.length, N.length, g⟩) ∧ bindOk K fd fi
  cmp : CmpC K (He.ga K c)
structure PgFix (P : Program) (w : World) (K : PySem.W.Frag) (mg : Str → Option Value) (pg : Pg) (tab : Fk → Option Bd) : Prop where
  fn : ∀ x i, pg.fns.lookup x = some i → ∃ (N : List Str) (f : Addr) (fd : FuncData) (qual : Str) (params : Arguments) (body : List Stmt) (scope : Scope) (dvs : List V) (kws : List (Str × V)) (g : SS),
    mg x = some (.ref f) ∧ FunD K x qual params body scope dvs kws f fd ∧ FnScope N i.ps scope ∧ OkSs (pg.at x) N scope body g ∧ tab (x, none) = some (.fn ⟨i.ps.length, N.length, g⟩) ∧ bindOk K fd i ∧ f = He.ga K x ∧ qual = x
  con : ∀ x d, pg.cons.lookup x = some d → ∃ u v, mg x = some u ∧ RelV v u ∧ ∀ H m, Rep K H m d v
  blt : ∀ x, x ∈ pg.blts → mg x = none
  exc : ∀ x, x ∈ pg.excs → EVX.ErrC P K mg x
  sub : ∀ c x, c ∈ pg.excs → x ∈ pg.excs → PySem.W.kitOne K (.ref (He.ga K c)) (.ref (He.ga K x)) = some (subE c x)
  ve : ∀ c, c ∈ pg.excs → PySem.W.kitOne K (.ref (He.ga K c)) (.type "ValueError") = some true
  sys : (K.lookup sysModules).isSome = true
  cls : ∀ c i, pg.cls.lookup c = some i → ClFix P w K mg pg tab c i
  me0 : pg.me = none
  hrd : pg.mks ≠ [] → HeardF K mg pg.hv
section
variable {P : Program} {w : World} {K : PySem.W.Frag} {mg : Str → Option Value} {base : Heap} {pg : Pg} {tab : Fk → Option Bd}
theorem fnG_no {ca : Ca} {k lev : Nat} {f : Addr} {fd : FuncData} {ps : List Str} (fk : Fk) (h : ∀ ds S, ca fk ds S = .no) : FnG P w K mg base (CX P w) lev f fd ps (spOf K ca fk ps.length) :=
  ⟨fun vs H Q E h => h.1, fun A outer s H args us vs Q E _ _ _ _ hh => by
    obtain ⟨_, ds, S, F, m, _, _, q⟩ := hh
    rw [h] at q
    exact q.elim⟩
/-- a def by its body -/
theorem fnG_bd {ca ca' : Ca} {k : Nat} {fk : Fk} {f : Addr} {fd : FuncData} {ps N : List Str} {name qual : Str} {params : Arguments} {body : List Stmt} {scope : Scope} {dvs : List V} {kws : List (Str × V)} {g : SS} (L : PgOk P w K mg base pg ca k) (FD : FunD K name qual params body scope dvs kws f fd) (SC : FnScope N ps scope)
    (o : OkSs pg N scope body g) (hme : ∀ n, pg.me = some n → n ∈ pg.mks ∧ qual = n ∧ f = He.ga K n) (hca : ∀ ds S, ca' fk ds S = runF ⟨ps.length, N.length, g⟩ ca ds S) : FnG P w K mg base (CX P w) (k + pg.ex + 1) f fd ps (spOf K ca' fk ps.length) := by
  have hme2 : ∀ n, pg.me = some n → n ∈ pg.mks ∧ qual = n ∧ fd.code = .ref (tbC K n) := fun n e => by
    obtain ⟨m1, m2, m3⟩ := hme n e
    refine ⟨m1, m2, ?_⟩
    obtain ⟨oc, od, dV, kV, doc, pm, an, cdv, ct, osl, e1, lk, hcd, _, _⟩ := FD.ex
    obtain ⟨c, ec⟩ := He.codeIn_ref hcd
    have e2 : fd.code = .ref c := by rw [e1]; exact ec
    rw [e2, show tbC K n = c from He.codeOf_eq (p := (n, none)) (by show K.lookup (He.ga K n) = _; rw [← m3]; exact lk) e2]
  refine fnG_of FD SC (fun vs H Q E h => h.1) (fun cdv A outer s H vs Q E ecd hr h => ?_)
  obtain ⟨hl, ds, S1, F1, m, wd, rl, q⟩ := h
  refine ⟨tS K E F1 H m (g ca), o _ _ _ E F1 H m (ctx_of SC.nd hr L (fun n e => by rw [← ecd]; exact hme2 n e)), initE N.length ds, S1, F1, m, Gr.refl wd, senv_init rl, ?_⟩
  rw [hca] at q
  unfold runF at q
  split at q
  · have q3 : Post K (fun c d _ H' => E c d H') [] F1 H m ((g ca (initE N.length ds) S1).bind endF) _ := q
    show PostS K E F1 H m (g ca (initE N.length ds) S1) _
    cases e : g ca (initE N.length ds) S1 with
    | no => rw [e] at q3; exact q3
    | exn c d S2 => rw [e] at q3; exact q3
    | ok fl S2 =>
      rw [e] at q3
      cases fl with
      | nx ρ => exact fun σ F2 H2 m2 g2 _ => q3 F2 H2 m2 g2 .non (by show Rep _ _ _ _ _; simp only [Rep])
      | rt b => exact fun v F2 H2 m2 g2 rv => q3 F2 H2 m2 g2 v rv
      | bk ρ => exact q3.elim
      | ct ρ => exact q3.elim
  · exact q.elim
theorem ca_eq {k : Nat} {fk : Fk} {b : Bd} (h : tab fk = some b) (ds : List D) (S : Cells) : caF tab (k + 1) fk ds S = runB b (caF tab k) ds S := by
  show (match tab fk with | some g => runB g (caF tab k) ds S | none => .no) = _
  rw [h]
theorem pgok (fx : PgFix P w K mg pg tab) (tbs : ∀ n, n ∈ pg.mks → LamX.TabB base mg (tbC K n) (tbP K n)) : ∀ k, PgOk P w K mg base pg (caF tab k) (4 * k + 2)
  | 0 => {
    fn := fun x i hi => by
      obtain ⟨N, f, fd, qual, params, body, scope, dvs, kws, g, hm, F, S, o, ht, hb, hf, hq⟩ := fx.fn x i hi
      exact ⟨f, fd, hm, F.kp, fnG_no (k := 0) _ fun _ _ => rfl, hb⟩
    con := fx.con, blt := fx.blt, exc := fx.exc, sub := fx.sub, ve := fx.ve, sys := fx.sys, lev2 := Nat.le_refl _, tb := tbs, hrd := fx.hrd
    cls := fun c i hi => by
      have q := fx.cls c i hi
      refine ⟨q.mgC, q.cl, ?_, q.fld, fun x f h => q.prop x f h base, fun x fi h => ?_, q.cmp⟩
      · obtain ⟨N, f, fd, name, qual, params, pre, sets, scope, dvs, kws, pres, es, M, F, SC, hv, p1, p2, nd, hl, ht, bn⟩ := q.made
        refine ⟨f, fd, 1, M, Nat.le_refl _, ⟨fun vs H Q E h => by rw [h.1]; simp, fun A outer s H args us vs Q E _ _ _ _ hh => ?_⟩, bn⟩
        obtain ⟨_, _, _, _, _, _, _, _, _, _, _, _, _, _, _, _, q⟩ := hh
        exact q.elim
      · obtain ⟨N, f, fd, name, qual, params, body, scope, dvs, kws, g, M, F, SC, o, ht, bn⟩ := q.mt x fi h
        exact ⟨f, fd, 1, M, Nat.le_refl _, fnG_no (k := 0) _ fun _ _ => rfl, bn⟩ }
  | k + 1 => {
    fn := fun x i hi => by
      obtain ⟨N, f, fd, qual, params, body, scope, dvs, kws, g, hm, F, S, o, ht, hb, hf, hq⟩ := fx.fn x i hi
      exact ⟨f, fd, hm, F.kp, (fnG_bd ((pgok fx tbs k).at x) F S o (fun n e => by
        unfold Pg.at at e
        dsimp only at e
        split at e
        · rename_i hc
          cases e
          exact ⟨List.contains_iff_mem.mp hc, hq, hf⟩
        · cases e) fun ds S => ca_eq ht ds S).mono (by have := Pg.at_ex (pg := pg) (x := x); omega), hb⟩
    con := fx.con, blt := fx.blt, exc := fx.exc, sub := fx.sub, ve := fx.ve, sys := fx.sys, lev2 := by omega, tb := tbs, hrd := fx.hrd
    cls := fun c i hi => by
      have q := fx.cls c i hi
      refine ⟨q.mgC, q.cl, ?_, q.fld, fun x f h => q.prop x f h base, fun x fi h => ?_, q.cmp⟩
      · obtain ⟨N, f, fd, name, qual, params, pre, sets, scope, dvs, kws, pres, es, M, F, SC, hv, p1, p2, nd, hl, ht, bn⟩ := q.made
        exact ⟨f, fd, 4 * k + 3, M, by omega, fnI (pgok fx tbs k) hi F SC hv p1 p2 nd hl fx.me0 fun ds S => ca_eq ht ds S, bn⟩
      · obtain ⟨N, f, fd, name, qual, params, body, scope, dvs, kws, g, M, F, SC, o, ht, bn⟩ := q.mt x fi h
        exact ⟨f, fd, 4 * k + 3, M, by omega, (fnG_bd (pgok fx tbs k) F SC o (fun n e => by rw [fx.me0] at e; cases e) fun ds S => ca_eq ht ds S).mono (by unfold Pg.ex; rw [fx.me0]; exact Nat.le_refl _), bn⟩ }
end
end EV

namespace EV
open PySem PySem.Spec PyProof.Rows L2

/-! ### the law's end -/
section
variable {P : Program} {w : World} {K : PySem.W.Frag} {mg mb : Str → Option Value} {k : Nat} {law a : Addr} {x : Str} {sp : Sp} {s : Shared} {vs : List Value} {ns : List Int}
def TrueEnd (s : Shared) (r : Result) (s' : Shared) : Prop := r = .ok (.ret (.bool true)) ∧ OldK s.heap s'.heap ∧ s'.os = s.os ∧ AllBare s'.gens
def noE : XK := fun _ _ _ => False
/-- b is one of the tables -/
def IsTab (K : PySem.W.Frag) (T : List Str) (b : Addr) : Prop := ∃ n, n ∈ T ∧ b = tbP K n
def OnlyT (K : PySem.W.Frag) (T : List Str) (H : Hp) : Prop := ∀ b, H b = none ∨ IsTab K T b ∨ ∃ o xs, H b = some (.frz o (.lst xs))
abbrev noTab : Obj := { cls := .none, data := .fields #[] }
structure TabsAt (K : PySem.W.Frag) (T : List Str) (hp : Heap) : Prop where
  hd : ∀ n, n ∈ T → PySem.W.codeHdIn K (tbC K n) (tbP K n) = true
  out : ∀ n, n ∈ T → K.lookup (tbP K n) = none
  emp : ∀ n, n ∈ T → hp.get? (tbP K n) = some noTab
  nd : (T.map (tbP K)).Nodup
theorem IsTab.at {T : List Str} {hp : Heap} {b : Addr} (t : TabsAt K T hp) (h : IsTab K T b) : hp.get? b = some noTab := by
  obtain ⟨n, hn, rfl⟩ := h
  exact t.emp n hn
theorem end_core {T : List Str} (kin : K.In s.heap) (gl : s.heap.Ns mainGlobals mg) (bl : s.heap.Ns builtinsNs mb) (blb : ∀ y : Str, y ≠ "__name__" → mb y = bootBuiltins y) (nl : s.heap.NoLimit) (nog : s.gens = #[])
    (tt : TabsAt K T s.heap) (bmod : ∃ (bm : Addr) (ob : Obj), mg "__builtins__" = some (.ref bm) ∧ bm ≠ builtinsNs ∧ s.heap.get? bm = some ob ∧ ob.cls = .type "module" ∧ ob.dict = some builtinsNs ∧ ob.data = .plain)
    (hobj : s.heap.get? a = some { cls := .type "list", data := .seq vs.toArray }) (rm : Rm k callerA)
    (FG : ∀ base : Heap, (∀ n, n ∈ T → LamX.TabB base mg (tbC K n) (tbP K n)) → ∃ fd, FnG P w K mg base (CX P w) k law fd [x] sp ∧ Binds K fd [x] [])
    (H : Hp) (only : OnlyT K T H) (hok : HOk P w H s.heap) (alone : ∀ b, H b ≠ none → b = a ∨ IsTab K T b) (apart : H a ≠ none → K.lookup a = none) (hT : ∀ n, n ∈ T → H (tbP K n) = some (.tbl #[])) (good : sp [.ref a] H (fun v _ => v = .bl true) noE) :
    codeAny (model P w) callerA (.call (.ref law) ⟨[.ref a], []⟩) (TrueEnd s) s := by
  have put : ∀ {b : Addr} {o : Obj}, s.heap.get? b = some o → H b = none → (hidT s.heap H).get? b = some o := fun z n => hidT_get z n
  -- what is neither a list nor an empty table is not hidden
  have open_ : ∀ {b : Addr} {o : Obj}, s.heap.get? b = some o → (∀ us n, o.data ≠ .seq us n) → o.data ≠ .fields #[] → H b = none := fun {b o} z q1 q2 => by
    by_cases n : H b = none
    · exact n
    · rcases alone b n with hb | hb
      · rw [hb, hobj] at z
        cases z
        exact absurd rfl (q1 _ _)
      · rw [hb.at tt] at z
        cases z
        exact absurd rfl q2
  have clear : ∀ {b : Addr} {o : Obj}, s.heap.get? b = some o → (∀ es ep, o.data = .dict es ep → H b = none) := fun {b o} z es ep q => open_ z (fun us n e => by rw [q] at e; cases e) (fun e => by rw [q] at e; cases e)
  have ns1 : ∀ {b : Addr} {m : Str → Option Value}, s.heap.Ns b m → (hidT s.heap H).Ns b m := fun {b m} ⟨o, es, ep, z, q, t⟩ => ⟨o, es, ep, put z (clear z es ep q), q, t⟩
  have kin1 : K.In (hidT s.heap H) := fun b o z => put (kin b o z) (by
    by_cases n : H b = none
    · exact n
    · rcases alone b n with hb | ⟨y, hy, hb⟩
      · subst hb
        rw [apart n] at z
        cases z
      · rw [hb, tt.out y hy] at z
        cases z)
  obtain ⟨mc, nl1, nl2⟩ := nl
  have md : Mod K mg (hidT s.heap H) := ⟨kin1, ns1 gl, ⟨mb, ns1 bl, blb⟩, mc, ns1 nl1, nl2⟩
  have env : Env0 P w K mg (hidT s.heap H) callerA [] s H := ⟨rfl, md, fun b o z => of_hidT z, Nat.le_of_eq (hidT_size _ _), trivial, fun b z => absurd (show b ∈ ([] : List Addr) from z) (List.not_mem_nil), hok, .of_eq nog⟩
  have tb : ∀ n, n ∈ T → LamX.TabB (hidT s.heap H) mg (tbC K n) (tbP K n) := fun n hn => by
    have at_n := tt.emp n hn
    obtain ⟨bm, ob, b1, b2, b3, b4, b5, b6⟩ := bmod
    refine ⟨PySem.W.codeHd_of_K kin1 (tt.hd n hn), ⟨bm, ob, b1, b2, fun q => ?_, fun q => ?_, put b3 (open_ b3 (fun us n e => by rw [b6] at e; cases e) fun e => by rw [b6] at e; cases e), b4, b5, b6⟩, fun z => ?_⟩
    · obtain ⟨o, es, ep, e, hd, _⟩ := gl
      rw [q, e] at b3
      cases b3
      rw [hd] at b6
      cases b6
    · rw [q, at_n] at b3
      cases b3
      cases b6
    · obtain ⟨o, es, ep, e, hd, _⟩ := gl
      rw [z, at_n] at e
      cases e
      cases hd
  obtain ⟨fd, FR, bind⟩ := FG (hidT s.heap H) tb
  refine codeAny_mono (FR.run callerA [] s H _ [.ref a] [.ref a] _ noE rm env (bind s [.ref a] kin rfl) (.cons rfl .nil) good) fun r s' h => ?_
  have none_in : ∀ b : Addr, b ∉ frs [] := fun b z => absurd (show b ∈ ([] : List Addr) from z) (List.not_mem_nil)
  cases r with
  | error e =>
    obtain ⟨_, _, _, _, _, _, _, _, _, _, _, _, z⟩ := h
    exact z.elim
  | ok fl =>
    cases fl with
    | ret u =>
      obtain ⟨v, H', h1, h2, un, hok2, rv, q⟩ := h
      cases (show v = .bl true from q)
      cases (show u = Value.bool true from rv)
      have same : ∀ b o, ¬ IsTab K T b → s.heap.get? b = some o → s'.heap.get? b = some o := fun b o nb z => by
        rcases only b with n | n | ⟨ob, xs, f⟩
        · exact un.keep b o z n (none_in b) (List.not_mem_nil)
        · exact absurd n nb
        · have f1 := (hok b _ f).1
          have f2 := (hok2 b _ (un.frzs b ob _ f)).1
          rw [z] at f1
          cases f1
          exact f2
      have wide : ∀ n, n ∈ T → ∃ more : Array Value, s'.heap.get? (tbP K n) = some { cls := .none, data := .fields more } := fun n hn => by
        obtain ⟨more, z⟩ := un.tbls (tbP K n) #[] (hT n hn)
        exact ⟨_, hok2 (tbP K n) _ z⟩
      refine ⟨rfl, ⟨fun b o z => ?_, fun b o z => ?_⟩, h1, h2⟩
      · by_cases hb : IsTab K T b
        · obtain ⟨n, hn, rfl⟩ := hb
          obtain ⟨more, hm⟩ := wide n hn
          rw [tt.emp n hn] at z
          cases z
          exact .inr (.inl ⟨((PySem.W.codeHd_of_K kin (tt.hd n hn)).tab (tt.emp n hn)).isCodeTable, rfl, #[], more, rfl, by rw [Array.empty_append]; exact hm⟩)
        · exact .inl (same b o hb z)
      · by_cases hb : IsTab K T b
        · obtain ⟨n, hn, rfl⟩ := hb
          obtain ⟨more, hm⟩ := wide n hn
          exact ⟨_, hm⟩
        · exact ⟨o, same b o hb z⟩
    | next => exact h.elim
    | brk => exact h.elim
    | cont => exact h.elim
open Classical in
theorem end_call {T : List Str} (kin : K.In s.heap) (gl : s.heap.Ns mainGlobals mg) (bl : s.heap.Ns builtinsNs mb) (blb : ∀ y : Str, y ≠ "__name__" → mb y = bootBuiltins y) (nl : s.heap.NoLimit) (nog : s.gens = #[])
    (tt : TabsAt K T s.heap) (bmod : ∃ (bm : Addr) (ob : Obj), mg "__builtins__" = some (.ref bm) ∧ bm ≠ builtinsNs ∧ s.heap.get? bm = some ob ∧ ob.cls = .type "module" ∧ ob.dict = some builtinsNs ∧ ob.data = .plain)
    (hobj : s.heap.get? a = some { cls := .type "list", data := .seq vs.toArray }) (iv : IntsAre vs ns) (hlen : ns.length ≤ sizeLine) (rm : Rm k callerA)
    (FG : ∀ base : Heap, (∀ n, n ∈ T → LamX.TabB base mg (tbC K n) (tbP K n)) → ∃ fd, FnG P w K mg base (CX P w) k law fd [x] sp ∧ Binds K fd [x] [])
    (good : ∀ H : Hp, (∀ n, n ∈ T → H (tbP K n) = some (.tbl #[])) → ¬ IsTab K T a → SqL K H a (ns.map V.int) → sp [.ref a] H (fun v _ => v = .bl true) noE) : codeAny (model P w) callerA (.call (.ref law) ⟨[.ref a], []⟩) (TrueEnd s) s := by
  have rv := vals_ints iv
  have hl2 := iv.length
  have na : ¬ IsTab K T a := fun z => by
    have q := z.at tt
    rw [hobj] at q
    have q2 : Data.seq vs.toArray _ = Data.fields #[] := congrArg Obj.data (Option.some.inj q)
    cases q2
  let G (z : Option HO) : Hp := fun b => if b = a then z else if IsTab K T b then some (.tbl #[]) else none
  have ga : ∀ z, G z a = z := fun z => if_pos rfl
  have gt : ∀ z b, IsTab K T b → G z b = some (.tbl #[]) := fun z b hb => by
    have : b ≠ a := fun e => na (e ▸ hb)
    show (if b = a then z else if IsTab K T b then some (.tbl #[]) else none) = _
    rw [if_neg this, if_pos hb]
  have gn : ∀ z b, b ≠ a → ¬ IsTab K T b → G z b = none := fun z b h1 h2 => by
    show (if b = a then z else if IsTab K T b then some (.tbl #[]) else none) = _
    rw [if_neg h1, if_neg h2]
  have gal : ∀ z b, G z b ≠ none → b = a ∨ IsTab K T b := fun z b h => by
    by_cases h1 : b = a
    · exact .inl h1
    · by_cases h2 : IsTab K T b
      · exact .inr h2
      · exact absurd (gn z b h1 h2) h
  have gk : ∀ z b u, b ≠ a → G z b = some u → IsTab K T b ∧ u = .tbl #[] := fun z b u h1 e => by
    by_cases h2 : IsTab K T b
    · rw [gt z b h2] at e
      exact ⟨h2, (Option.some.inj e).symm⟩
    · rw [gn z b h1 h2] at e
      cases e
  by_cases hk : K.lookup a = none
  · have ha : G (some (.frz { cls := .type "list", data := .seq vs.toArray } (.lst (ns.map V.int)))) a = some (.frz { cls := .type "list", data := .seq vs.toArray } (.lst (ns.map V.int))) := ga _
    refine end_core kin gl bl blb nl nog tt bmod hobj rm FG (G (some (.frz { cls := .type "list", data := .seq vs.toArray } (.lst (ns.map V.int))))) (fun b => ?_) (fun b o z => ?_) (fun b z => gal _ b z) (fun _ => hk) (fun n hn => gt _ _ ⟨n, hn, rfl⟩) (good _ (fun n hn => gt _ _ ⟨n, hn, rfl⟩) na (.inl (.inr ⟨_, ha⟩)))
    · by_cases nb : b = a
      · subst nb; exact .inr (.inr ⟨_, _, ha⟩)
      · by_cases h2 : IsTab K T b
        · exact .inr (.inl h2)
        · exact .inl (gn _ b nb h2)
    · by_cases nb : b = a
      · subst nb
        rw [ha] at z
        cases z
        exact ⟨hobj, by simpa using hlen, vs, _, rv, hobj⟩
      · obtain ⟨h2, rfl⟩ := gk _ b o nb z
        exact h2.at tt
  · obtain ⟨o, ho⟩ := Option.ne_none_iff_exists'.mp hk
    have e := kin a o ho
    rw [hobj] at e
    cases e
    refine end_core kin gl bl blb nl nog tt bmod hobj rm FG (G none) (fun b => ?_) (fun b o z => ?_) (fun b z => gal _ b z) (fun z => absurd (ga none) z) (fun n hn => gt _ _ ⟨n, hn, rfl⟩) (good _ (fun n hn => gt _ _ ⟨n, hn, rfl⟩) na (.inr ⟨_, vs.toArray, _, ho, rfl, rfl, rfl, ?_, by simpa using rv⟩))
    · by_cases nb : b = a
      · subst nb; exact .inl (ga none)
      · by_cases h2 : IsTab K T b
        · exact .inr (.inl h2)
        · exact .inl (gn _ b nb h2)
    · by_cases nb : b = a
      · subst nb
        rw [ga] at z
        cases z
      · obtain ⟨h2, rfl⟩ := gk _ b o nb z
        exact h2.at tt
    · rw [List.size_toArray, hl2]; exact hlen
end
/-- the cells at the start: the tables -/
def tbS (T : List Str) : Cells := T.map fun n => .tb n (lamQ n)
/-- the frozen part at the start -/
def startF (H : Hp) (m : List Addr) : Hp := fun b => if b ∈ m then none else H b
theorem start_wd {K : PySem.W.Frag} {T : List Str} {H : Hp} (nd : (T.map (tbP K)).Nodup) (hT : ∀ n, n ∈ T → H (tbP K n) = some (.tbl #[])) : Wd K (startF H (T.map (tbP K))) H (T.map (tbP K)) (tbS T) := by
  refine ⟨fun b o e => ?_, by simp [tbS], nd, fun i b o h1 h2 => ?_, fun i o h => ?_⟩
  · unfold startF at e
    split at e
    · cases e
    · exact e
  · unfold tbS at h2
    rw [List.getElem?_map] at h1 h2
    cases q : T[i]? with
    | none => rw [q] at h1; cases h1
    | some n =>
      rw [q] at h1 h2
      cases h1
      cases h2
      have hn := List.mem_of_getElem? q
      refine ⟨if_pos (List.mem_map_of_mem hn), rfl, #[], hT n hn, True.intro, fun pos cv hc => ?_⟩
      have z : codeAmong pos [] = some cv := hc
      simp [codeAmong] at z
  · unfold tbS at h
    rw [List.getElem?_map] at h
    cases q : T[i]? with
    | none => rw [q] at h; cases h
    | some n => rw [q] at h; cases h; rfl
/-- a law: F gives the written part and what the evaluator says -/
theorem walk_ev {l : PySem.W.OpenLaw} {n k : Nat} {q : Program} {loose : List Str} {XP : (Str → Option Value) → Heap → Prop} {YP : World → Heap → Prop} {d : DefRec} {x : Str} {pg : Pg} {tab : Fk → Option Bd}
    (hn : l.most = some n) (hn2 : n ≤ sizeLine) (hdf : d.params.defaults = []) (rm : Rm (4 * k + 2) callerA)
    (F : ∀ (w : World) (mg : Str → Option Value) (h : Heap), YP w h → h.Ns mainGlobals mg → ∃ K : PySem.W.Frag, K.In h ∧ PgFix l.prog w K mg pg tab ∧ TabsAt K pg.mks h)
    (hl : pg.fns.lookup d.name = some ⟨[x], []⟩)
    (ev : ∀ ns : List Int, ns.length ≤ n → ∃ S, caF tab k (d.name, none) [.scr ns] (tbS pg.mks) = .ok (.bl true, false) S) :
    PySem.W.WalkO q loose XP YP l.row.toRowW d [] (fun f vs => PySem.call f vs) := by
  refine Att.attach_call hn hdf fun w s₀ s₁ mg mb fa o pm cd doc a vs ns G Y ho hd hcd hmg hobj hints hlen hg => ?_
  obtain ⟨K, kin, fx, tt⟩ := F w mg _ Y G.T.g
  have FGs : ∀ base : Heap, (∀ n, n ∈ pg.mks → LamX.TabB base mg (tbC K n) (tbP K n)) → ∃ fd, FnG l.prog w K mg base (CX l.prog w) (4 * k + 2) fa fd [x] (spOf K (caF tab k) (d.name, none) 1) ∧ Binds K fd [x] [] := fun base tb => by
    obtain ⟨f, fd, h1, _, g, hb⟩ := (pgok (base := base) fx tb k).fn d.name ⟨[x], []⟩ hl
    rw [hmg] at h1
    cases h1
    obtain ⟨dvs, us, r1, b1, r2⟩ := hb 1 (by simp) (by simp)
    have e1 : dvs = [] := by
      have := (r2 (fun _ => none) []).length
      simp at this
      exact List.eq_nil_of_length_eq_zero this.symm
    subst e1
    cases r1
    exact ⟨fd, g, b1⟩
  refine end_call kin G.T.g G.T.b G.T.builtins G.T.nolimit hg tt G.T.bmain hobj hints (Nat.le_trans hlen hn2) rm FGs fun H hT na hS => ?_
  obtain ⟨S, e⟩ := ev ns hlen
  refine ⟨rfl, [.scr ns], tbS pg.mks, startF H (pg.mks.map (tbP K)), pg.mks.map (tbP K), start_wd tt.nd hT, ?_, ?_⟩
  · refine .cons ?_ .nil
    simp only [Rep]
    refine ⟨a, rfl, ?_, Nat.le_trans hlen hn2⟩
    have hm : a ∉ pg.mks.map (tbP K) := fun z => by
      obtain ⟨n, hn, e⟩ := List.mem_map.mp z
      exact na ⟨n, hn, e.symm⟩
    have ea : startF H (pg.mks.map (tbP K)) a = H a := if_neg hm
    rcases hS with (h | ⟨o, h⟩) | h
    · exact .inl (.inl (ea.trans h))
    · exact .inl (.inr ⟨o, ea.trans h⟩)
    · exact .inr h
  · rw [e]
    intro F' H' m' _ v rv
    have rv' : Rep K F' m' (.bl true) v := rv
    simpa only [Rep] using rv'
end EV

namespace EV
open PySem PySem.Spec PyProof.Rows L2

/-! ### the head's facts -/
/-- the errors' __init__ where the run has laid it -/
def iniA (K : PySem.W.Frag) : Addr := He.ma K (He.ga K "LotError") "__init__"
abbrev IniW : Type := Option (Str × Str × Arguments × FuncBody × Scope × Addr × List Str × Addr)
def iniW (K : PySem.W.Frag) (f : Addr) : IniW := match K.lookup f with
  | some ⟨_, _, .func fd, _⟩ => some (fd.name, fd.qualname, fd.params, fd.body, fd.scope, fd.globals, fd.closure.map (·.1), fd.builtins)
  | _ => none
def posOf : List Stmt → List Pos
  | [.Expr (.Call (.Attribute (.Call (.Name _ q0) _ _ q1) _ q2) [.Name _ q3] _ q4) q5, .Assign [.Attribute (.Name _ q6) _ q7] (.Name _ q8) q9] => [q0, q1, q2, q3, q4, q5, q6, q7, q8, q9]
  | _ => []
/-- the def in an error class's text -/
def iniS : Stmt → Stmt
  | .ClassDef _ _ _ (st :: _) _ _ _ _ _ _ _ => st
  | st => st
def parPos (a : Arguments) : List Pos := a.args.map (·.pos)
def iniVal (st : Stmt) : IniW := some ("__init__", "LotError.__init__", EVX.initPars ((parPos (defArgs st)).getD 0 default) ((parPos (defArgs st)).getD 1 default), .stmts (EVX.initBody (posOf (defBody st))), EVX.initScope, mainGlobals, ["__class__"], builtinsNs)
def baseB (file : Str) (K : PySem.W.Frag) (D f : Addr) : Bool :=
  (match K.lookup f with
    | some ⟨_, _, .func fd, _⟩ => (match fd.code with
      | .ref cda => PySem.W.codeIn K (.ref cda) "LotError.__init__" && (match K.lookup cda with
        | some ⟨_, _, .fields vs, _⟩ => (match (vs[2]? : Option Value) with
          | some (.str g _) => decide (g = file)
          | _ => false)
        | _ => false)
      | _ => false) && (match fd.defaults with
      | .none => true
      | _ => false) && (match fd.closure with
      | [(_, cc)] => (match K.lookup cc with
        | some ⟨_, _, .cell (some (.ref d)), _⟩ => decide (d = D)
        | _ => false)
      | _ => false)
    | _ => false) && (PySem.W.clsIn K D).isSome && He.eqO (PySem.W.nsIn K mainGlobals "super") (some none) && He.eqO (PySem.W.nsIn K cStatics "thirdparty.any") (some none) &&
  decide (PySem.W.typeIn K (.ref f) = some (.type "function"))
theorem base_ok {P : Program} {K : PySem.W.Frag} {D f : Addr} {st : Stmt} (h : baseB P.main.file K D f = true) (e : iniW K f = iniVal st) (hp : (((posOf (defBody st)).getD 2 default).endLine == ((posOf (defBody st)).getD 4 default).line) = true) (ht : (P.main.scope.names.lookup ("super" : Str)).isSome = false) :
    EVX.Base P K D f ∧ PySem.W.typeIn K (.ref f) = some (.type "function") := by
  unfold baseB at h
  simp only [Bool.and_eq_true] at h
  obtain ⟨⟨⟨⟨h1, h2⟩, h3⟩, h4⟩, h5⟩ := h
  refine ⟨⟨?_, Option.isSome_iff_exists.mp h2, He.eqO_ok h3, He.eqO_ok h4, ht⟩, of_decide_eq_true h5⟩
  split at h1
  · rename_i oc od fd osl lk
    simp only [Bool.and_eq_true] at h1
    obtain ⟨⟨c1, c2⟩, c3⟩ := h1
    split at c1
    · rename_i cda hcode
      simp only [Bool.and_eq_true] at c1
      obtain ⟨c4, c5⟩ := c1
      split at c5
      · rename_i ccl cdd vs ccs lc
        split at c5
        · rename_i g tf hvs
          have hg := of_decide_eq_true c5
          subst hg
          split at c2
          · rename_i hdef
            split at c3
            · rename_i y cc hclo
              split at c3
              · rename_i cl cld d csl lcc
                have hd := of_decide_eq_true c3
                subst hd
                unfold iniW iniVal at e
                rw [lk] at e
                obtain ⟨n1, n2, n3, n4, n5, n6, n7, n8, n9, n10, n11, n12, n13, n14, n15⟩ := fd
                simp only [Option.some.injEq, Prod.mk.injEq] at e hcode hdef hclo
                obtain ⟨e1, e2, e3, e4, e5, e6, e7, e8⟩ := e
                subst e1 e2 e3 e4 e5 e6 hcode hdef hclo e8
                have ey : y = "__class__" := by simpa using e7
                subst ey
                exact ⟨oc, od, osl, _, _, _, _, n9, n10, n11, n12, n14, cda, cc, ccl, cdd, ccs, vs, tf, cl, cld, csl, lk, c4, lc, hvs, lcc, hp⟩
              · cases c3
            · cases c3
          · cases c2
        · cases c5
      · cases c5
    · cases c1
  · cases h1
def errB (K : PySem.W.Frag) (D f C : Addr) : Bool :=
  PySem.W.excInitIn K C PySem.HandSPX.veTail "ValueError.__new__" && (match PySem.W.clsIn K C with
    | some cd => PySem.HandSPX.refsVE cd.mro && cd.hasDict
    | none => false) && decide (PySem.W.mroIn K C (.ref D) = some true) && He.eqO (PySem.W.ks_superIn K C D "__init__") (some (some (.builtin "ValueError.__init__"))) && decide (PySem.W.subIn K (.ref C) (.type "ValueError") = some true) &&
  He.eqO (PySem.W.findIn K (.ref C) "value") (some none) && He.eqO (PySem.W.findIn K (.ref C) "__setattr__") (some (some (.builtin "object.__setattr__"))) && He.eqO (PySem.W.findIn K (.ref C) "__init__") (some (some (.ref f))) &&
  PySem.W.keepIn K (.ref C) && decide (PySem.W.subIn K (.ref C) (.type "BaseException") = some true) && decide (PySem.W.typeIn K (.ref C) = some (.type "type")) && xfB K C &&
  He.eqO (PySem.W.findIn K (.ref C) "__class__") (some (some (.builtin "object.__class__"))) && decide (PySem.W.mroIn K C (.type "object") = some true) && decide (PySem.W.kitOne K (.ref C) (.type "ValueError") = some true) && decide (PySem.W.exmOne K (.ref C) (.ref D) = some true)
def descB (K : PySem.W.Frag) : Bool := He.eqO (PySem.W.specialIn K (.builtin "object.__class__") "__get__") (some (some (.builtin "getset_descriptor.__get__"))) && decide (PySem.W.takesIn K (.builtin "object.__class__") = some true)
theorem err_ok {P : Program} {K : PySem.W.Frag} {mg : Str → Option Value} {x : Str} {D f : Addr} (hD : D = He.ga K "LotError") (hm : mg x = some (.ref (He.ga K x))) (h : errB K D f (He.ga K x) = true) (hd : descB K = true) (b : EVX.Base P K D f) (tf : PySem.W.typeIn K (.ref f) = some (.type "function")) :
    EVX.ErrC P K mg x ∧ PySem.W.kitOne K (.ref (He.ga K x)) (.type "ValueError") = some true := by
  unfold errB at h
  simp only [Bool.and_eq_true] at h
  obtain ⟨⟨⟨⟨⟨⟨⟨⟨⟨⟨⟨⟨⟨⟨⟨h1, h2⟩, h3⟩, h4⟩, h5⟩, h6⟩, h7⟩, h8⟩, h9⟩, h10⟩, h11⟩, h12⟩, h13⟩, h14⟩, h15⟩, h16⟩ := h
  unfold descB at hd
  simp only [Bool.and_eq_true] at hd
  have m : ∃ cd, PySem.W.clsIn K (He.ga K x) = some cd ∧ PySem.HandSPX.refsVE cd.mro = true ∧ cd.hasDict = true := by
    cases q : PySem.W.clsIn K (He.ga K x) with
    | none => rw [q] at h2; cases h2
    | some cd =>
      rw [q] at h2
      simp only [Bool.and_eq_true] at h2
      exact ⟨cd, rfl, h2.1, h2.2⟩
  exact ⟨⟨⟨D, f, b, ⟨h1, m, of_decide_eq_true h3, He.eqO_ok h4, of_decide_eq_true h5, He.eqO_ok h6, He.eqO_ok h7⟩, He.eqO_ok h8, tf⟩, hm, h9, of_decide_eq_true h10, of_decide_eq_true h11, xfB_ok h12, He.eqO_ok h6, He.eqO_ok h13, He.eqO_ok hd.1, of_decide_eq_true hd.2, of_decide_eq_true h14, by rw [← hD]; exact of_decide_eq_true h16⟩, of_decide_eq_true h15⟩
end EV

namespace EV
open PySem PySem.Spec PyProof.Rows L2

/-! ### the head's facts of own classes -/
def fnAt (K : PySem.W.Frag) (a : Addr) : He.FnW := match K.lookup a with
  | some ⟨_, _, .func fd, _⟩ => some (fd.name, fd.qualname, fd.params, fd.body, fd.scope, fd.globals, fd.closure, fd.builtins)
  | _ => none
def okAt (K : PySem.W.Frag) (a : Addr) (d : He.DefD) : Bool := PySem.W.keepIn K (.ref a) && (match K.lookup a with
  | some ⟨_, _, .func fd, _⟩ => PySem.W.codeIn K fd.code d.qual && (He.dflB K fd.defaults (d.dvs K) && He.kwdB K fd.kwdefaults (d.kws K))
  | _ => false)
theorem funAt {K : PySem.W.Frag} {a : Addr} {d : He.DefD} (e : fnAt K a = d.val) (c : okAt K a d = true) : ∃ fd, FunD K d.name d.qual d.params d.body d.scope (d.dvs K) (d.kws K) a fd := by
  unfold okAt at c
  simp only [Bool.and_eq_true] at c
  obtain ⟨kp, c2⟩ := c
  unfold fnAt at e
  cases q : K.lookup a with
  | none => rw [q] at c2; cases c2
  | some o =>
    obtain ⟨oc, od, dt, osl⟩ := o
    rw [q] at c2 e
    cases dt with
    | func fd =>
      obtain ⟨a1, a2, a3, a4, a5, a6, a7, a8, a9, a10, a11, a12, a13, a14, a15⟩ := fd
      have e2 : (some (a1, a2, a3, a4, a5, a6, a7, a15) : He.FnW) = d.val := e
      unfold He.DefD.val at e2
      simp only [Option.some.injEq, Prod.mk.injEq] at e2
      obtain ⟨z1, z2, z3, z4, z5, z6, z7, z8⟩ := e2
      subst z1 z2 z3 z4 z5 z6 z7 z8
      dsimp only at c2
      simp only [Bool.and_eq_true] at c2
      exact ⟨_, ⟨oc, od, a8, a9, a10, a11, a12, a13, a14, osl, rfl, q, c2.1, He.dflB_ok c2.2.1, He.kwdB_ok c2.2.2⟩, kp⟩
    | _ => cases c2
/-- a property: its name, the field that it tells, its getter -/
structure PrD where
  x : Str
  f : Str
  d : He.DefD
structure ClD where
  c : Str
  flds : List Str
  ini : He.DefD
  mts : List He.DefD
  props : List PrD
/-- where a property's getter stands -/
def gtA (K : PySem.W.Frag) (c x : Str) : Addr := match PySem.W.recIn K (He.ma K (He.ga K c) x) "property" with
  | some (.ref g :: _) => g
  | _ => 0
def mtB (K : PySem.W.Frag) (c : Str) (d : He.DefD) : Bool := He.eqO (PySem.W.findIn K (.ref (He.ga K c)) d.name) (some (some (.ref (He.ma K (He.ga K c) d.name)))) && PySem.W.isFn K (.ref (He.ma K (He.ga K c) d.name)) && okAt K (He.ma K (He.ga K c) d.name) d
def prB (K : PySem.W.Frag) (c : Str) (p : PrD) : Bool := He.eqO (PySem.W.findIn K (.ref (He.ga K c)) p.x) (some (some (.ref (He.ma K (He.ga K c) p.x)))) && He.eqO (PySem.W.specialIn K (.ref (He.ma K (He.ga K c) p.x)) "__get__") (some (some (.builtin "property.__get__"))) &&
  decide (PySem.W.takesIn K (.ref (He.ma K (He.ga K c) p.x)) = some true) && (match PySem.W.recIn K (He.ma K (He.ga K c) p.x) "property" with
    | some (.ref _ :: _) => true
    | _ => false) && okAt K (gtA K c p.x) p.d && He.eqO (PySem.W.findIn K (.ref (He.ga K c)) p.f) (some none)
def cmpB (K : PySem.W.Frag) (C : Addr) : Bool := (tyAll.all fun a => decide (PySem.W.kitOne K (.type a) (.ref C) = some false)) && (tyAll.all fun a => PySem.W.notFirst K C (.type a)) &&
  He.eqO (PySem.W.findIn K (.ref C) "__ne__") (some (some (.builtin "object.__ne__"))) && He.eqO (PySem.W.findIn K (.ref C) "__class__") (some (some (.builtin "object.__class__"))) &&
  He.eqO (PySem.W.specialIn K (.builtin "object.__class__") "__get__") (some (some (.builtin "getset_descriptor.__get__"))) && decide (PySem.W.takesIn K (.builtin "object.__class__") = some true) && decide (PySem.W.mroIn K C (.type "object") = some true)
theorem cmpB_ok {K : PySem.W.Frag} {C : Addr} (h : cmpB K C = true) : CmpC K C := by
  unfold cmpB at h
  simp only [Bool.and_eq_true] at h
  obtain ⟨⟨⟨⟨⟨⟨h1, h2⟩, h3⟩, h4⟩, h5⟩, h6⟩, h7⟩ := h
  exact ⟨fun a ha => of_decide_eq_true (List.all_eq_true.mp h1 a ha), fun a ha => List.all_eq_true.mp h2 a ha, He.eqO_ok h3, He.eqO_ok h4, He.eqO_ok h5, of_decide_eq_true h6, of_decide_eq_true h7⟩
def clB (K : PySem.W.Frag) (d : ClD) : Bool := (He.Fa.glo d.c).ok K && PySem.W.plainGet K (He.ga K d.c) Str.empty && PySem.W.hasDictIn K (He.ga K d.c) && PySem.W.plainOver K (He.ga K d.c) &&
  He.eqO (PySem.W.findIn K (.ref (He.ga K d.c)) "__setattr__") (some (some (.builtin "object.__setattr__"))) && PySem.W.makesIn K (He.ga K d.c) && PySem.W.keepIn K (.ref (He.ga K d.c)) && (d.ini.name == ("__init__" : Str)) && mtB K d.c d.ini &&
  (d.flds.all fun f => He.eqO (PySem.W.findIn K (.ref (He.ga K d.c)) f) (some none)) && d.mts.all (mtB K d.c) && d.props.all (prB K d.c) && cmpB K (He.ga K d.c)
def clW (K : PySem.W.Frag) (d : ClD) : List He.FnW := fnAt K (He.ma K (He.ga K d.c) d.ini.name) :: (d.mts.map fun m => fnAt K (He.ma K (He.ga K d.c) m.name)) ++ d.props.map fun p => fnAt K (gtA K d.c p.x)
def clV (d : ClD) : List He.FnW := d.ini.val :: (d.mts.map He.DefD.val) ++ d.props.map fun p => p.d.val
/-- a getter's body -/
def getB (f : Str) : List Stmt → Bool
  | [.Return (some (.Attribute (.Name x _) g _)) _] => x == ("self" : Str) && g == f
  | _ => false
structure ClFacts (P : Program) (w : World) (K : PySem.W.Frag) (mg : Str → Option Value) (d : ClD) : Prop where
  mgC : mg d.c = some (.ref (He.ga K d.c))
  cl : Cls K (He.ga K d.c)
  mk1 : ∃ fd, Mk K (He.ga K d.c) (He.ma K (He.ga K d.c) "__init__") ∧ FunD K d.ini.name d.ini.qual d.ini.params d.ini.body d.ini.scope (d.ini.dvs K) (d.ini.kws K) (He.ma K (He.ga K d.c) "__init__") fd
  fld : ∀ f, f ∈ d.flds → NoAttr K (He.ga K d.c) f
  mt : ∀ (j : Nat) m, d.mts[j]? = some m → ∃ fd, Meth K (He.ga K d.c) m.name (He.ma K (He.ga K d.c) m.name) ∧ FunD K m.name m.qual m.params m.body m.scope (m.dvs K) (m.kws K) (He.ma K (He.ga K d.c) m.name) fd
  prop : ∀ (j : Nat) p, d.props[j]? = some p → ∃ fd, PropOf K (He.ga K d.c) p.x (He.ma K (He.ga K d.c) p.x) (gtA K d.c p.x) ∧ FunD K p.d.name p.d.qual p.d.params p.d.body p.d.scope (p.d.dvs K) (p.d.kws K) (gtA K d.c p.x) fd ∧ NoAttr K (He.ga K d.c) p.f
  cmp : CmpC K (He.ga K d.c)
theorem cl_facts {P : Program} {w : World} {K : PySem.W.Frag} {hp : Heap} {mg : Str → Option Value} {d : ClD} (X : K.In hp) (G : hp.Ns mainGlobals mg) (h : clB K d = true) (e : clW K d = clV d) : ClFacts P w K mg d := by
  unfold clB at h
  simp only [Bool.and_eq_true] at h
  obtain ⟨⟨⟨⟨⟨⟨⟨⟨⟨⟨⟨⟨h1, h2⟩, h3⟩, h4⟩, h5⟩, h6⟩, h7⟩, h8⟩, h9⟩, h10⟩, h11⟩, h12⟩, h13⟩ := h
  unfold clW clV at e
  simp only [List.cons_append, List.cons.injEq] at e
  obtain ⟨e1, e2⟩ := e
  have e3 := List.append_inj e2 (by simp)
  have hn := eq_of_beq h8
  have mto : ∀ m : He.DefD, mtB K d.c m = true → fnAt K (He.ma K (He.ga K d.c) m.name) = m.val → ∃ fd, Meth K (He.ga K d.c) m.name (He.ma K (He.ga K d.c) m.name) ∧ FunD K m.name m.qual m.params m.body m.scope (m.dvs K) (m.kws K) (He.ma K (He.ga K d.c) m.name) fd := fun m hm em => by
    unfold mtB at hm
    simp only [Bool.and_eq_true] at hm
    obtain ⟨fd, F⟩ := funAt em hm.2
    exact ⟨fd, ⟨He.eqO_ok hm.1.1, hm.1.2, F.kp⟩, F⟩
  refine ⟨He.glo_ok X G h1, ⟨h2, h3, h4, He.eqO_ok h5⟩, ?_, fun f hf => He.eqO_ok (List.all_eq_true.mp h10 f hf), fun j m hj => ?_, fun j p hj => ?_, cmpB_ok h13⟩
  · obtain ⟨fd, M, F⟩ := mto d.ini h9 e1
    rw [hn] at M
    refine ⟨fd, ⟨h6, M.at_, M.fn, h7⟩, ?_⟩
    rw [← hn]
    exact F
  · refine mto m (List.all_eq_true.mp h11 m (List.mem_of_getElem? hj)) ?_
    have z := congrArg (fun l => l[j]?) e3.1
    simp only [List.getElem?_map, hj, Option.map_some, Option.some.injEq] at z
    exact z
  · have hp := List.all_eq_true.mp h12 p (List.mem_of_getElem? hj)
    unfold prB at hp
    simp only [Bool.and_eq_true] at hp
    obtain ⟨⟨⟨⟨⟨p1, p2⟩, p3⟩, p4⟩, p5⟩, p6⟩ := hp
    have z := congrArg (fun l => l[j]?) e3.2
    simp only [List.getElem?_map, hj, Option.map_some, Option.some.injEq] at z
    obtain ⟨fd, F⟩ := funAt z p5
    refine ⟨fd, ⟨He.eqO_ok p1, He.eqO_ok p2, of_decide_eq_true p3, ?_⟩, F, He.eqO_ok p6⟩
    unfold gtA
    split at p4
    · rename_i g rest hr
      rw [hr]
      exact ⟨rest, rfl⟩
    · cases p4
end EV

namespace EV
open PySem PySem.Spec PyProof.Rows L2

/-! ### the Hook -/
structure Hd where
  fn : List He.DefD
  free : List Str
  excs : List Str
  cons : List (Str × D)
  file : Str
  ini : Stmt
  cls : List ClD := []
  mks : List Str := []
/-- the errors' places are apart, each is over itself and LotError alone -/
def mroB (K : PySem.W.Frag) (D C : Addr) : Bool := match PySem.W.clsIn K C with
  | some cd => decide (cd.mro = .ref C :: (if C = D then PySem.HandSPX.veTail else .ref D :: PySem.HandSPX.veTail))
  | none => false
def nodupA : List Addr → Bool
  | [] => true
  | a :: as => !(as.any fun b => Nat.beq b a) && nodupA as
def valB (K : PySem.W.Frag) (u : Value) : D → Bool
  | .int i => (match u with
    | .int j _ => decide (j = i)
    | _ => false)
  | .str x => (match u with
    | .str y _ => decide (y = x) && decide (x.length ≤ 16777216) && cpOk x
    | _ => false)
  | _ => false
def valsB (K : PySem.W.Frag) : List Value → List D → Bool
  | [], [] => true
  | u :: us, d :: ds => valB K u d && valsB K us ds
  | _, _ => false
def conB (K : PySem.W.Frag) (x : Str) (d : D) : Bool := match PySem.W.nsIn K mainGlobals x with
  | some (some u) => (match d with
    | .tup ds => (match u with
      | .ref a => (match K.lookup a with
        | some ⟨.type c, _, .seq its _, _⟩ => decide (c = "tuple") && decide (its.size ≤ sizeLine) && valsB K its.toList ds
        | _ => false)
      | _ => false)
    | d => valB K u d)
  | _ => false
def excB (K : PySem.W.Frag) (h : Hd) : Bool := match h.excs with
  | [] => true
  | _ => baseB h.file K (He.ga K "LotError") (iniA K) && descB K && nodupA (h.excs.map (He.ga K)) && (h.excs.all fun x => (He.Fa.glo x).ok K && errB K (He.ga K "LotError") (iniA K) (He.ga K x) && mroB K (He.ga K "LotError") (He.ga K x)) &&
    h.excs.contains "LotError"
def factB (h : Hd) (K : PySem.W.Frag) : Bool := (h.fn.all fun d => (He.Fa.glo d.name).ok K && d.ok K) && (h.free.all fun x => (He.Fa.free x).ok K) && excB K h && (h.cons.all fun q => conB K q.1 q.2) && (K.lookup sysModules).isSome && h.cls.all (clB K)
abbrev AlV : Type := Bool × List He.FnW × IniW × List (List He.FnW)
def obsV (h : Hd) (K : PySem.W.Frag) : AlV := (factB h K, h.fn.map fun d => He.fnW K d.at_, match h.excs with
  | [] => none
  | _ => iniW K (iniA K), h.cls.map (clW K))
def valV' (h : Hd) : AlV := (true, h.fn.map He.DefD.val, match h.excs with
  | [] => none
  | _ => iniVal h.ini, h.cls.map clV)
def asV (g : Addr → Option Obj) : Nat → List Addr
  | 0 => [mainGlobals, cStatics, sysModules]
  | n + 1 => He.growD g (asV g n)
def tabsV (g : Addr → Option Obj) (T : List Str) (K : PySem.W.Frag) : Bool := He.tabsB g (T.map fun n => (n, none)) K && nodupA (T.map (tbP K))
def obsVG (n : Nat) (h : Hd) (g : Addr → Option Obj) : AlV × Bool := (obsV h (He.frT g (asV g n)), tabsV g h.mks (He.frT g (asV g n)))
theorem nodupA_nd : ∀ {l : List Addr}, nodupA l = true → l.Nodup
  | [], _ => .nil
  | a :: as, h => by
    simp only [nodupA, Bool.and_eq_true, Bool.not_eq_true'] at h
    refine List.nodup_cons.mpr ⟨fun z => ?_, nodupA_nd h.2⟩
    have := List.any_eq_false.mp h.1 a z
    exact this (Nat.beq_refl _)
theorem tabsV_ok {hp : Heap} {T : List Str} {as : List Addr} (e : tabsV hp.get? T (He.frT hp.get? as) = true) : TabsAt (He.frT hp.get? as) T hp := by
  unfold tabsV He.tabsB at e
  simp only [Bool.and_eq_true] at e
  have key : ∀ n, n ∈ T → PySem.W.codeHdIn (He.frT hp.get? as) (tbC (He.frT hp.get? as) n) (tbP (He.frT hp.get? as) n) = true ∧ ∃ o, hp.get? (tbP (He.frT hp.get? as) n) = some o ∧ He.emptyTab o = true := fun n hn => by
    have q := List.all_eq_true.mp e.1 (n, none) (List.mem_map_of_mem hn)
    simp only [Bool.and_eq_true] at q
    refine ⟨q.1, ?_⟩
    have q2 := q.2
    split at q2
    · rename_i o ho
      exact ⟨o, ho, q2⟩
    · cases q2
  exact ⟨fun n hn => (key n hn).1, fun n hn => by
    obtain ⟨_, o, h1, h2⟩ := key n hn
    exact He.frT_none h1 h2, fun n hn => by
    obtain ⟨_, o, h1, h2⟩ := key n hn
    rw [h1, He.emptyTab_eq h2], nodupA_nd e.2⟩
def hookV (n : Nat) (h : Hd) : PySem.W.Hook where
  α := AlV × Bool
  obs := fun s => obsVG n h s.heap.get?
  val := fun _ => (valV' h, true)
  says := fun _ hp => ∃ K : PySem.W.Frag, K.In hp ∧ obsV h K = valV' h ∧ TabsAt K h.mks hp
  of := fun _ _ e => ⟨_, He.frT_in, congrArg (fun z : AlV × Bool => z.1) e, tabsV_ok (congrArg (fun z : AlV × Bool => z.2) e)⟩
  keeps := fun _ _ _ ⟨K, hK, c, t⟩ k => ⟨K, PySem.W.Frag.In.keeps hK k, c, t.hd, t.out, fun n hn => k _ _ (t.emp n hn), t.nd⟩
theorem obsVG_eq {n : Nat} {h : Hd} {g : Addr → Option Obj} {s : Shared} (e : ∀ a, g a = s.heap.get? a) : obsVG n h g = (hookV n h).obs s := by
  have e' : g = s.heap.get? := funext e
  rw [e']
  rfl
/-! ### what they say -/
theorem nodupA_ok : ∀ {xs : List Str} {f : Str → Addr}, nodupA (xs.map f) = true → ∀ a b, a ∈ xs → b ∈ xs → f a = f b → a = b
  | [], f, h, a, b, ha, hb, e => by cases ha
  | x :: xs, f, h, a, b, ha, hb, e => by
    simp only [List.map_cons, nodupA, Bool.and_eq_true, Bool.not_eq_true'] at h
    have out : ∀ y, y ∈ xs → f y ≠ f x := fun y hy q => by
      have := List.any_eq_false.mp h.1 (f y) (List.mem_map_of_mem hy)
      rw [q] at this
      exact this (Nat.beq_refl _)
    rcases List.mem_cons.mp ha with ea | ha1
    · rcases List.mem_cons.mp hb with eb | hb1
      · rw [ea, eb]
      · rw [ea] at e
        exact absurd e.symm (out b hb1)
    · rcases List.mem_cons.mp hb with eb | hb1
      · rw [eb] at e
        exact absurd e (out a ha1)
      · exact nodupA_ok h.2 a b ha1 hb1 e
theorem valB_ok {K : PySem.W.Frag} {u : Value} {d : D} (h : valB K u d = true) : ∃ v, RelV v u ∧ ∀ H m, Rep K H m d v := by
  unfold valB at h
  split at h
  · split at h
    · rename_i i j t
      have := of_decide_eq_true h
      subst this
      exact ⟨.int _, ⟨t, rfl⟩, fun H m => rep_int _⟩
    · cases h
  · split at h
    · rename_i x y t
      simp only [Bool.and_eq_true, decide_eq_true_eq] at h
      obtain ⟨⟨rfl, h2⟩, h3⟩ := h
      exact ⟨.str _, ⟨t, rfl⟩, fun H m => by simp only [Rep]; rw [line24]; exact ⟨trivial, h2, h3⟩⟩
    · cases h
  · cases h
theorem valsB_ok {K : PySem.W.Frag} : ∀ {us : List Value} {ds : List D}, valsB K us ds = true → ∃ vs, Vals vs us ∧ ∀ H m, RepL K H m ds vs
  | [], [], _ => ⟨[], .nil, fun _ _ => .nil⟩
  | [], _ :: _, h => by cases h
  | _ :: _, [], h => by cases h
  | u :: us, d :: ds, h => by
    simp only [valsB, Bool.and_eq_true] at h
    obtain ⟨v, r, q⟩ := valB_ok h.1
    obtain ⟨vs, rs, qs⟩ := valsB_ok h.2
    exact ⟨v :: vs, .cons r rs, fun H m => .cons (q H m) (qs H m)⟩
theorem conB_ok {K : PySem.W.Frag} {hp : Heap} {mg : Str → Option Value} {x : Str} {d : D} (X : K.In hp) (G : hp.Ns mainGlobals mg) (h : conB K x d = true) : ∃ u v, mg x = some u ∧ RelV v u ∧ ∀ H m, Rep K H m d v := by
  unfold conB at h
  split at h
  · rename_i u hu
    have hm := PySem.W.mg_of X G hu
    split at h
    · split at h
      · rename_i ds a
        split at h
        · rename_i c dd its n sl lk
          simp only [Bool.and_eq_true, decide_eq_true_eq] at h
          obtain ⟨⟨rfl, h2⟩, h3⟩ := h
          obtain ⟨vs, rs, qs⟩ := valsB_ok h3
          refine ⟨_, .ref a, hm, rfl, fun H m => ?_⟩
          simp only [Rep]
          refine ⟨a, vs, rfl, .inr ⟨_, its, n, lk, rfl, rfl, h2, rs⟩, ?_, qs H m⟩
          rw [rs.length, Array.length_toList]
          exact h2
        · cases h
      · cases h
    · obtain ⟨v, r, q⟩ := valB_ok h
      exact ⟨u, v, hm, r, q⟩
  · cases h
theorem kit_sub {K : PySem.W.Frag} {D C X : Addr} (hC : mroB K D C = true) (hX : mroB K D X = true) (ht : PySem.W.typeIn K (.ref X) = some (.type "type")) : PySem.W.kitOne K (.ref C) (.ref X) = some (decide (C = X) || decide (X = D)) := by
  unfold PySem.W.kitOne
  by_cases e : C = X
  · subst e
    simp
  · have ne : (Value.ref C == Value.ref X) = false := by simp [e]
    rw [ne]
    simp only [Bool.false_eq_true, if_false]
    unfold mroB at hC hX
    cases qX : PySem.W.clsIn K X with
    | none => rw [qX] at hX; cases hX
    | some cx =>
      cases qC : PySem.W.clsIn K C with
      | none => rw [qC] at hC; cases hC
      | some cc =>
        rw [qC] at hC
        have hm := of_decide_eq_true hC
        unfold PySem.W.kitCls
        simp only [qX, ht, Option.isSome_some, Bool.true_and, beq_self_eq_true, if_true]
        show PySem.W.mroIn K C (.ref X) = _
        unfold PySem.W.mroIn
        rw [qC, Option.bind_some, hm]
        simp only [List.isEmpty_cons, Bool.false_eq_true, if_false]
        congr 1
        have nv : (PySem.HandSPX.veTail).contains (Value.ref X) = false := by
          have : ∀ a : Addr, (PySem.HandSPX.veTail).contains (Value.ref a) = false := fun a => rfl
          exact this X
        split
        · rename_i eD
          subst eD
          rw [List.contains_cons, nv]
          have : (Value.ref X == Value.ref C) = false := by simp [Ne.symm e]
          rw [this]
          simp [e, Ne.symm e]
        · rename_i eD
          rw [List.contains_cons, List.contains_cons, nv]
          have : (Value.ref X == Value.ref C) = false := by simp [Ne.symm e]
          rw [this]
          by_cases z : X = D
          · subst z; simp
          · simp [e, z]
/-- the facts as the evaluator wants them; fns: the defs -/
theorem fix_of {P : Program} {w : World} {K : PySem.W.Frag} {hp : Heap} {mg : Str → Option Value} {h : Hd} {pg : Pg} {tab : Fk → Option Bd} (X : K.In hp) (G : hp.Ns mainGlobals mg) (c : obsV h K = valV' h) (hf : h.file = P.main.file)
    (hpos : (((posOf (defBody h.ini)).getD 2 default).endLine == ((posOf (defBody h.ini)).getD 4 default).line) = true ∨ h.excs = []) (ht : (P.main.scope.names.lookup ("super" : Str)).isSome = false) (e1 : pg.blts = h.free) (e2 : pg.excs = h.excs) (e3 : pg.cons = h.cons)
    (fns : (∀ (i : Nat) d, h.fn[i]? = some d → ∃ fd, mg d.name = some (.ref (He.ga K d.name)) ∧ FunD K d.name d.qual d.params d.body d.scope (d.dvs K) (d.kws K) (He.fAd K d.at_) fd) →
      ∀ x i, pg.fns.lookup x = some i → ∃ (N : List Str) (f : Addr) (fd : FuncData) (qual : Str) (params : Arguments) (body : List Stmt) (scope : Scope) (dvs : List V) (kws : List (Str × V)) (g : SS),
        mg x = some (.ref f) ∧ FunD K x qual params body scope dvs kws f fd ∧ FnScope N i.ps scope ∧ OkSs (pg.at x) N scope body g ∧ tab (x, none) = some (.fn ⟨i.ps.length, N.length, g⟩) ∧ bindOk K fd i ∧ f = He.ga K x ∧ qual = x)
    (hme : pg.me = none) (hrd : (∀ (i : Nat) d, h.fn[i]? = some d → ∃ fd, mg d.name = some (.ref (He.ga K d.name)) ∧ FunD K d.name d.qual d.params d.body d.scope (d.dvs K) (d.kws K) (He.fAd K d.at_) fd) → (∀ x, x ∈ pg.excs → EVX.ErrC P K mg x) → pg.mks ≠ [] → HeardF K mg pg.hv)
    (clsF : (∀ (i : Nat) d, h.cls[i]? = some d → ClFacts P w K mg d) → ∀ c i, pg.cls.lookup c = some i → ClFix P w K mg pg tab c i) : PgFix P w K mg pg tab := by
  have c1 : factB h K = true := congrArg (fun z : AlV => z.1) c
  have c2 : h.fn.map (fun d => He.fnW K d.at_) = h.fn.map He.DefD.val := congrArg (fun z : AlV => z.2.1) c
  unfold factB at c1
  simp only [Bool.and_eq_true] at c1
  obtain ⟨⟨⟨⟨⟨f1, f2⟩, f3⟩, f4⟩, f5⟩, f6⟩ := c1
  have c4 : h.cls.map (clW K) = h.cls.map clV := congrArg (fun z : AlV => z.2.2.2) c
  have hE : ∀ x, x ∈ h.excs → EVX.ErrC P K mg x ∧ PySem.W.kitOne K (.ref (He.ga K x)) (.type "ValueError") = some true ∧ mroB K (He.ga K "LotError") (He.ga K x) = true := fun x hx => by
    have c3 : (match h.excs with | [] => none | _ => iniW K (iniA K)) = (match h.excs with | [] => none | _ => iniVal h.ini) := congrArg (fun z : AlV => z.2.2.1) c
    unfold excB at f3
    cases q : h.excs with
    | nil => rw [q] at hx; cases hx
    | cons y ys =>
      rw [q] at c3 f3
      simp only [Bool.and_eq_true] at f3
      obtain ⟨⟨⟨⟨g1, g2⟩, g3⟩, g4⟩, g5⟩ := f3
      obtain ⟨b1, b2⟩ := base_ok (P := P) (st := h.ini) (by rw [← hf]; exact g1) c3 (by
        rcases hpos with z | z
        · exact z
        · rw [q] at z; cases z) ht
      rw [q] at hx
      have g6 := List.all_eq_true.mp g4 x hx
      simp only [Bool.and_eq_true] at g6
      obtain ⟨e1, e2⟩ := err_ok (P := P) rfl (He.glo_ok X G g6.1.1) g6.1.2 g2 b1 b2
      exact ⟨e1, e2, g6.2⟩
  have fA : ∀ (i : Nat) d, h.fn[i]? = some d → ∃ fd, mg d.name = some (.ref (He.ga K d.name)) ∧ FunD K d.name d.qual d.params d.body d.scope (d.dvs K) (d.kws K) (He.fAd K d.at_) fd := fun i d hi => by
    have g := List.all_eq_true.mp f1 d (List.mem_of_getElem? hi)
    simp only [Bool.and_eq_true] at g
    have e : (h.fn.map fun d => He.fnW K d.at_)[i]? = (h.fn.map He.DefD.val)[i]? := by rw [c2]
    rw [List.getElem?_map, List.getElem?_map, hi] at e
    obtain ⟨fd, F⟩ := He.DefD.funD (Option.some.inj e) g.2
    exact ⟨fd, He.glo_ok X G g.1, F⟩
  refine ⟨fns fA, fun x d hx => ?_, fun x hx => ?_, fun x hx => ?_, fun a b ha hb => ?_, fun a ha => ?_, f5, clsF fun i d hi => ?_, hme, hrd fA fun x hx => (hE x (e2 ▸ hx)).1⟩
  · rw [e3] at hx
    have hm : (x, d) ∈ h.cons := by
      clear f4 fns hE fA hrd
      revert hx
      induction h.cons with
      | nil => intro z; cases z
      | cons p l ih =>
        obtain ⟨y, e⟩ := p
        intro z
        rw [List.lookup_cons] at z
        split at z
        · rename_i q
          cases z
          rw [eq_of_beq q]
          exact List.mem_cons_self ..
        · exact List.mem_cons_of_mem _ (ih z)
    exact conB_ok X G (List.all_eq_true.mp f4 _ hm)
  · rw [e1] at hx
    exact He.free_ok X G (List.all_eq_true.mp f2 x hx)
  · rw [e2] at hx
    exact (hE x hx).1
  · rw [e2] at ha hb
    obtain ⟨_, _, m1⟩ := hE a ha
    obtain ⟨t2, _, m2⟩ := hE b hb
    rw [kit_sub m1 m2 t2.tyC]
    have f3' := f3
    unfold excB at f3'
    cases q : h.excs with
    | nil => rw [q] at ha; cases ha
    | cons y ys =>
      rw [q] at f3'
      simp only [Bool.and_eq_true] at f3'
      obtain ⟨⟨⟨⟨_, _⟩, g3⟩, _⟩, g5⟩ := f3'
      rw [q] at ha hb
      have hL : ("LotError" : Str) ∈ y :: ys := List.contains_iff_mem.mp g5
      have inj := nodupA_ok (f := He.ga K) g3
      congr 1
      unfold subE
      congr 1
      · by_cases z : a = b
        · subst z; simp
        · have : He.ga K a ≠ He.ga K b := fun e => z (inj a b ha hb e)
          simp [z, this]
      · by_cases z : b = "LotError"
        · subst z; simp
        · have : He.ga K b ≠ He.ga K "LotError" := fun e => z (inj b _ hb hL e)
          simp [z, this]
  · rw [e2] at ha
    exact (hE a ha).2.1
  · refine cl_facts X G (List.all_eq_true.mp f6 d (List.mem_of_getElem? hi)) ?_
    have z := congrArg (fun l => l[i]?) c4
    simp only [List.getElem?_map, hi, Option.map_some, Option.some.injEq] at z
    exact z
end EV

namespace EV
open PySem PySem.Spec PyProof.Rows L2

/-! ### the defs of a text -/
structure FnE where
  d : He.DefD
  N : List Str
  ps : List Str
  cn : List Str := []
  dfl : List D := []
def nodupS : List Str → Bool
  | [] => true
  | a :: as => !(as.contains a) && nodupS as
theorem nodupS_ok : ∀ {l : List Str}, nodupS l = true → l.Nodup
  | [], _ => .nil
  | a :: as, h => by
    simp only [nodupS, Bool.and_eq_true, Bool.not_eq_true'] at h
    refine List.nodup_cons.mpr ⟨fun z => ?_, nodupS_ok h.2⟩
    rw [List.contains_iff_mem.mpr z] at h
    cases h.1
def takeB : List Str → List Str → Bool
  | _, [] => true
  | x :: xs, p :: ps => x == p && takeB xs ps
  | [], _ :: _ => false
theorem takeB_ok : ∀ {N ps : List Str}, takeB N ps = true → N.take ps.length = ps
  | N, [], _ => by simp
  | [], _ :: _, h => by cases h
  | x :: xs, p :: ps, h => by
    simp only [takeB, Bool.and_eq_true] at h
    simp [takeB_ok h.2, eq_of_beq h.1]
def scopeB (N ps : List Str) (sc : Scope) : Bool := isFnS sc && !sc.isCoroutine && !sc.isGenerator && nodupS N && takeB N ps && (ps.all fun x => locB sc x) && (sc.names.all fun y => match y.2 with
  | .free => false
  | _ => true)
theorem scopeB_ok {N ps : List Str} {sc : Scope} (h : scopeB N ps sc = true) : FnScope N ps sc := by
  unfold scopeB at h
  simp only [Bool.and_eq_true, Bool.not_eq_true'] at h
  obtain ⟨⟨⟨⟨⟨⟨h1, h2⟩, h3⟩, h4⟩, h5⟩, h6⟩, h7⟩ := h
  refine ⟨isFnS_ok h1, h2, h3, nodupS_ok h4, takeB_ok h5, fun x hx => locB_ok (List.all_eq_true.mp h6 x hx), fun y hy e => ?_⟩
  have := List.all_eq_true.mp h7 y hy
  rw [e] at this
  cases this
def formOf (pg : Pg) (e : FnE) : SS := (compD pg e.N e.cn e.d.scope e.d.body).getD sPass
/-- an own class -/
structure ClE where
  c : Str
  flds : List Str
  ps : List Str
  ini : FnE
  mts : List FnE
  props : List PrD
def iniOf (pg : Pg) (e : ClE) : Option Bd := match compIn pg e.ini.N e.ini.cn e.ini.d.scope e.ini.d.body with
  | some (ps, _, es) => some (.ini e.c e.flds e.ps.length e.ini.N.length ps es)
  | none => none
def tabOf (pg : Pg) (es : List FnE) (cs : List ClE) (fk : Fk) : Option Bd := match fk.2 with
  | none => (match es.find? (fun e => e.d.name == fk.1) with
    | some e => some (.fn ⟨e.ps.length, e.N.length, formOf (pg.at e.d.name) e⟩)
    | none => none)
  | some m => (match cs.find? (fun e => e.c == fk.1) with
    | some e => if m == ("__init__" : Str) then iniOf pg e else (match e.mts.find? (fun e => e.d.name == m) with
      | some e => some (.fn ⟨e.ps.length, e.N.length, formOf pg e⟩)
      | none => none)
    | none => none)
def fnsOf (es : List FnE) : List (Str × FnI) := es.map fun e => (e.d.name, ⟨e.ps, e.dfl⟩)
def okE (pg : Pg) (e : FnE) : Bool := scopeB e.N e.ps e.d.scope && (compD (pg.at e.d.name) e.N e.cn e.d.scope e.d.body).isSome && e.d.at_.1 == e.d.name && e.d.at_.2.isNone && e.d.qual == e.d.name
/-- how a def takes its arguments -/
def BindE (e : FnE) : Prop := ∀ (K : PySem.W.Frag) (f : Addr) (fd : FuncData), FunD K e.d.name e.d.qual e.d.params e.d.body e.d.scope (e.d.dvs K) (e.d.kws K) f fd → bindOk K fd ⟨e.ps, e.dfl⟩
theorem bind0 {e : FnE} (hd : e.dfl = []) (h : ∀ (K : PySem.W.Frag) (f : Addr) (fd : FuncData), FunD K e.d.name e.d.qual e.d.params e.d.body e.d.scope (e.d.dvs K) (e.d.kws K) f fd → Binds K fd e.ps []) : BindE e := fun K f fd F n _ _ => by
  refine ⟨[], [], .nil, h K f fd F, fun H m => ?_⟩
  show RepL K H m (e.dfl.drop _) []
  rw [hd]
  simp only [List.drop_nil]
  exact .nil
structure DefsOk (pg : Pg) (es : List FnE) : Prop where
  ok : ∀ e, e ∈ es → okE pg e = true
  bd : ∀ e, e ∈ es → BindE e
theorem DefsOk.nil {pg : Pg} : DefsOk pg [] := ⟨fun _ h => (by cases h), fun _ h => (by cases h)⟩
theorem DefsOk.cons {pg : Pg} {e : FnE} {es : List FnE} (h : okE pg e = true) (b : BindE e) (r : DefsOk pg es) : DefsOk pg (e :: es) :=
  ⟨fun x hx => by
    rcases List.mem_cons.mp hx with rfl | hx
    · exact h
    · exact r.ok x hx, fun x hx => by
    rcases List.mem_cons.mp hx with rfl | hx
    · exact b
    · exact r.bd x hx⟩
theorem lookup_fns : ∀ {es : List FnE} {x : Str} {i : FnI}, (fnsOf es).lookup x = some i → ∃ (j : Nat) (e : FnE), es[j]? = some e ∧ e.d.name = x ∧ i = ⟨e.ps, e.dfl⟩ ∧ es.find? (fun e => e.d.name == x) = some e
  | [], x, i, h => by cases h
  | e :: es, x, i, h => by
    have h' : ((e.d.name, (⟨e.ps, e.dfl⟩ : FnI)) :: fnsOf es).lookup x = some i := h
    rw [List.lookup_cons] at h'
    split at h'
    · rename_i q
      cases h'
      have := eq_of_beq q
      exact ⟨0, e, rfl, this.symm, rfl, by rw [List.find?_cons]; simp [this]⟩
    · rename_i q
      obtain ⟨j, e2, a, b, c, d⟩ := lookup_fns h'
      refine ⟨j + 1, e2, a, b, c, ?_⟩
      rw [List.find?_cons]
      have : (e.d.name == x) = false := by
        cases z : (e.d.name == x) with
        | false => rfl
        | true =>
          have := eq_of_beq z
          rw [this] at q
          simp at q
      rw [this]
      exact d
theorem fns_of {K : PySem.W.Frag} {mg : Str → Option Value} {h : Hd} {pg : Pg} {es : List FnE} {cs : List ClE} {more : List He.DefD} (h1 : h.fn = es.map (·.d) ++ more) (h2 : pg.fns = fnsOf es) (Dk : DefsOk pg es)
    (A : ∀ (i : Nat) d, h.fn[i]? = some d → ∃ fd, mg d.name = some (.ref (He.ga K d.name)) ∧ FunD K d.name d.qual d.params d.body d.scope (d.dvs K) (d.kws K) (He.fAd K d.at_) fd) :
    ∀ x i, pg.fns.lookup x = some i → ∃ (N : List Str) (f : Addr) (fd : FuncData) (qual : Str) (params : Arguments) (body : List Stmt) (scope : Scope) (dvs : List V) (kws : List (Str × V)) (g : SS),
      mg x = some (.ref f) ∧ FunD K x qual params body scope dvs kws f fd ∧ FnScope N i.ps scope ∧ OkSs (pg.at x) N scope body g ∧ tabOf pg es cs (x, none) = some (.fn ⟨i.ps.length, N.length, g⟩) ∧ bindOk K fd i ∧ f = He.ga K x ∧ qual = x := fun x i hx => by
  rw [h2] at hx
  obtain ⟨j, e, ej, en, rfl, ef⟩ := lookup_fns hx
  subst en
  have he := List.mem_of_getElem? ej
  have ok := Dk.ok e he
  unfold okE at ok
  simp only [Bool.and_eq_true] at ok
  obtain ⟨⟨⟨⟨o1, o2⟩, o3⟩, o4⟩, o5⟩ := ok
  obtain ⟨fd, hm, F⟩ := A j e.d (by rw [h1, List.getElem?_append_left (by simpa using (List.getElem?_eq_some_iff.mp ej).1), List.getElem?_map, ej]; rfl)
  have ea : He.fAd K e.d.at_ = He.ga K e.d.name := by
    unfold He.fAd
    cases q : e.d.at_.2 with
    | some z => rw [q] at o4; cases o4
    | none =>
      show He.ga K e.d.at_.1 = _
      rw [eq_of_beq o3]
  rw [ea] at F
  obtain ⟨g, hg⟩ := Option.isSome_iff_exists.mp o2
  refine ⟨e.N, _, fd, _, _, _, _, _, _, g, hm, F, scopeB_ok o1, compD_ok hg, ?_, Dk.bd e he K _ fd F, rfl, eq_of_beq o5⟩
  show (match es.find? (fun z => z.d.name == e.d.name) with
    | some e => some (Bd.fn ⟨e.ps.length, e.N.length, formOf (pg.at e.d.name) e⟩)
    | none => none) = _
  rw [ef]
  show some (Bd.fn ⟨e.ps.length, e.N.length, formOf (pg.at e.d.name) e⟩) = _
  unfold formOf
  rw [hg]
  rfl
/-! ### the classes of a text -/
def infC (e : ClE) : ClI := ⟨e.ps, e.flds, e.props.map fun p => (p.x, p.f), e.mts.map fun m => (m.d.name, ⟨m.ps, m.dfl⟩)⟩
def clsOf (cs : List ClE) : List (Str × ClI) := cs.map fun e => (e.c, infC e)
def hdC (e : ClE) : ClD := ⟨e.c, e.flds, e.ini.d, e.mts.map (·.d), e.props⟩
def okM (pg : Pg) (e : FnE) : Bool := scopeB e.N e.ps e.d.scope && (compD pg e.N e.cn e.d.scope e.d.body).isSome
def okC (pg : Pg) (e : ClE) : Bool := scopeB e.ini.N ("self" :: e.ps) e.ini.d.scope && visB e.ini.d.scope "self" && (match compIn pg e.ini.N e.ini.cn e.ini.d.scope e.ini.d.body with
    | some (_, fs, _) => decide (fs = e.flds)
    | none => false) && nodupS e.flds && decide (e.flds.length ≤ 900) && (e.mts.all fun m => okM pg m && !(m.d.name == ("__init__" : Str))) && e.props.all fun p => getB p.f p.d.body && scopeB ["self"] ["self"] p.d.scope
structure ClsOk (pg : Pg) (cs : List ClE) : Prop where
  ok : ∀ e, e ∈ cs → okC pg e = true
  bi : ∀ e, e ∈ cs → ∀ (K : PySem.W.Frag) (f : Addr) (fd : FuncData), FunD K e.ini.d.name e.ini.d.qual e.ini.d.params e.ini.d.body e.ini.d.scope (e.ini.d.dvs K) (e.ini.d.kws K) f fd → Binds K fd ("self" :: e.ps) []
  bm : ∀ e, e ∈ cs → ∀ m, m ∈ e.mts → BindE m
  bp : ∀ e, e ∈ cs → ∀ p, p ∈ e.props → ∀ (K : PySem.W.Frag) (f : Addr) (fd : FuncData), FunD K p.d.name p.d.qual p.d.params p.d.body p.d.scope (p.d.dvs K) (p.d.kws K) f fd → Binds K fd ["self"] []
theorem lookup_cls : ∀ {cs : List ClE} {x : Str} {i : ClI}, (clsOf cs).lookup x = some i → ∃ (j : Nat) (e : ClE), cs[j]? = some e ∧ e.c = x ∧ i = infC e ∧ cs.find? (fun e => e.c == x) = some e
  | [], x, i, h => by cases h
  | e :: es, x, i, h => by
    have h' : ((e.c, infC e) :: clsOf es).lookup x = some i := h
    rw [List.lookup_cons] at h'
    split at h'
    · rename_i q
      cases h'
      have := eq_of_beq q
      exact ⟨0, e, rfl, this.symm, rfl, by rw [List.find?_cons]; simp [this]⟩
    · rename_i q
      obtain ⟨j, e2, a, b, c, d⟩ := lookup_cls h'
      refine ⟨j + 1, e2, a, b, c, ?_⟩
      rw [List.find?_cons]
      have : (e.c == x) = false := by
        cases z : (e.c == x) with
        | false => rfl
        | true =>
          have := eq_of_beq z
          rw [this] at q
          simp at q
      rw [this]
      exact d
theorem lookup_mts : ∀ {es : List FnE} {x : Str} {i : FnI}, (es.map fun m => (m.d.name, (⟨m.ps, m.dfl⟩ : FnI))).lookup x = some i → ∃ (j : Nat) (e : FnE), es[j]? = some e ∧ e.d.name = x ∧ i = ⟨e.ps, e.dfl⟩ ∧ es.find? (fun e => e.d.name == x) = some e := fun {es x i} h => lookup_fns (es := es) h
theorem lookup_props : ∀ {ps : List PrD} {x f : Str}, (ps.map fun p => (p.x, p.f)).lookup x = some f → ∃ (j : Nat) (p : PrD), ps[j]? = some p ∧ p.x = x ∧ p.f = f
  | [], x, f, h => by cases h
  | p :: ps, x, f, h => by
    have h' : ((p.x, p.f) :: ps.map fun p => (p.x, p.f)).lookup x = some f := h
    rw [List.lookup_cons] at h'
    split at h'
    · rename_i q
      cases h'
      exact ⟨0, p, rfl, (eq_of_beq q).symm, rfl⟩
    · obtain ⟨j, p2, a, b, c⟩ := lookup_props h'
      exact ⟨j + 1, p2, a, b, c⟩
theorem getB_in {f : Str} {body : List Stmt} (h : getB f body = true) : ∃ p1 p2 p3, body = [.Return (some (.Attribute (.Name "self" p1) f p2)) p3] := by
  unfold getB at h
  split at h
  · simp only [Bool.and_eq_true] at h
    have e1 := eq_of_beq h.1
    have e2 := eq_of_beq h.2
    subst e1 e2
    exact ⟨_, _, _, rfl⟩
  · cases h
theorem cls_of {P : Program} {w : World} {K : PySem.W.Frag} {mg : Str → Option Value} {h : Hd} {pg : Pg} {es : List FnE} {cs : List ClE} (h1 : h.cls = cs.map hdC) (h2 : pg.cls = clsOf cs) (Ck : ClsOk pg cs)
    (A : ∀ (i : Nat) d, h.cls[i]? = some d → ClFacts P w K mg d) : ∀ c i, pg.cls.lookup c = some i → ClFix P w K mg pg (tabOf pg es cs) c i := fun c i hc => by
  rw [h2] at hc
  obtain ⟨j, e, ej, en, rfl, ef⟩ := lookup_cls hc
  subst en
  have he := List.mem_of_getElem? ej
  have ok := Ck.ok e he
  unfold okC at ok
  simp only [Bool.and_eq_true] at ok
  obtain ⟨⟨⟨⟨⟨⟨o1, o2⟩, o3⟩, o4⟩, o5⟩, o6⟩, o7⟩ := ok
  have cf := A j (hdC e) (by rw [h1, List.getElem?_map, ej]; rfl)
  refine ⟨cf.mgC, cf.cl, ?_, cf.fld, fun x f hx base => ?_, fun x fi hx => ?_, cf.cmp⟩
  · obtain ⟨fd, M, F⟩ := cf.mk1
    split at o3
    · rename_i ps fs es' hc'
      have := of_decide_eq_true o3
      subst this
      obtain ⟨pre, sets, eb, p1, p2⟩ := compIn_ok hc'
      have F' : FunD K e.ini.d.name e.ini.d.qual e.ini.d.params e.ini.d.body e.ini.d.scope (e.ini.d.dvs K) (e.ini.d.kws K) (He.ma K (He.ga K e.c) "__init__") fd := F
      have bn := Ck.bi e he K _ fd F'
      rw [eb] at F'
      refine ⟨e.ini.N, _, fd, _, _, _, pre, sets, _, _, _, ps, es', M, F', scopeB_ok o1, o2, p1, p2, nodupS_ok o4, of_decide_eq_true o5, ?_, bn⟩
      show (match cs.find? (fun (z : ClE) => z.c == e.c) with
        | some e => if ("__init__" : Str) == ("__init__" : Str) then iniOf pg e else (match e.mts.find? (fun (z : FnE) => z.d.name == ("__init__" : Str)) with
          | some e => some (Bd.fn ⟨e.ps.length, e.N.length, formOf pg e⟩)
          | none => none)
        | none => none) = _
      rw [ef]
      simp only [beq_self_eq_true, if_true]
      unfold iniOf
      rw [hc']
      rfl
    · cases o3
  · obtain ⟨j2, p, pj, rfl, rfl⟩ := lookup_props hx
    obtain ⟨fd, PO, F, na⟩ := cf.prop j2 p pj
    have op := List.all_eq_true.mp o7 p (List.mem_of_getElem? pj)
    simp only [Bool.and_eq_true] at op
    obtain ⟨p1, p2, p3, eb⟩ := getB_in op.1
    have bn := Ck.bp e he p (List.mem_of_getElem? pj) K _ fd F
    obtain ⟨oc, od, dV, kV, doc, pm, an, cdv, ct, osl, rfl, lk, hcd, _, _⟩ := F.ex
    exact ⟨_, _, _, PO, fn_getter (N := ["self"]) (k := 0) lk hcd (scopeB_ok op.2) rfl eb cf.cl na, bn⟩
  · obtain ⟨j2, m, mj, rfl, rfl, mf⟩ := lookup_mts hx
    obtain ⟨fd, M, F⟩ := cf.mt j2 m.d (by show (e.mts.map (·.d))[j2]? = _; rw [List.getElem?_map, mj]; rfl)
    have hm := List.mem_of_getElem? mj
    have om := List.all_eq_true.mp o6 m hm
    simp only [Bool.and_eq_true, Bool.not_eq_true'] at om
    have om1 := om.1
    unfold okM at om1
    simp only [Bool.and_eq_true] at om1
    obtain ⟨g, hg⟩ := Option.isSome_iff_exists.mp om1.2
    refine ⟨m.N, _, fd, _, _, _, _, _, _, _, g, M, F, scopeB_ok om1.1, compD_ok hg, ?_, Ck.bm e he m hm K _ fd F⟩
    show (match cs.find? (fun (z : ClE) => z.c == e.c) with
      | some e => if m.d.name == ("__init__" : Str) then iniOf pg e else (match e.mts.find? (fun (z : FnE) => z.d.name == m.d.name) with
        | some e => some (Bd.fn ⟨e.ps.length, e.N.length, formOf pg e⟩)
        | none => none)
      | none => none) = _
    rw [ef]
    simp only [om.2, Bool.false_eq_true, if_false]
    rw [mf]
    show some (Bd.fn ⟨m.ps.length, m.N.length, formOf pg m⟩) = _
    unfold formOf
    rw [hg]
    rfl
end EV
namespace EV
open PySem PySem.Spec PyProof.Rows L2
theorem bindD {e : FnE} (k : Nat) (hd : e.dfl.length = k) (hdv : ∀ K, (e.d.dvs K).length = k) (h0 : 0 < k) (hr : ∀ K H m, RepL K H m e.dfl (e.d.dvs K)) (hp : k ≤ e.ps.length)
    (h : ∀ j, j ≤ k → ∀ (T : Addr) (kV doc pm : Value) (an : Option Addr) (cdv ct : Value) (us its : List Value), us.length = e.ps.length - k + j → its.length = k →
      ∃ kk, bindArgs (PySem.W.fnOf e.d.name e.d.qual e.d.params e.d.body e.d.scope (.ref T) kV doc pm an cdv ct) ⟨us, []⟩ = seqItems? (.ref T) >>= kk ∧ kk (some its.toArray) = pure (e.ps.zip (us ++ its.drop j))) : BindE e := fun K f fd F n h1 h2 => by
  have hd' : n + e.dfl.length ≥ e.ps.length := h1
  have h2' : n ≤ e.ps.length := h2
  show ∃ dvs us, Vals dvs us ∧ Binds K fd e.ps us ∧ ∀ H m, RepL K H m (e.dfl.drop (n + e.dfl.length - e.ps.length)) dvs
  have hne : e.d.dvs K ≠ [] := fun z => by
    have := hdv K
    rw [z] at this
    simp at this
    omega
  clear h1 h2
  obtain ⟨ds, r, b⟩ := F.binds1 (ps := e.ps) n (n + k - e.ps.length) hne (by rw [hdv K]; omega) (fun T kV doc pm an cdv ct us its hu hi => by
    rw [hdv K] at hi
    exact h (n + k - e.ps.length) (by omega) T kV doc pm an cdv ct us its (by omega) hi)
  refine ⟨_, ds, r, b, fun H m => ?_⟩
  rw [hd]
  exact (hr K H m).drop _
end EV
namespace EV
open PySem PySem.Spec PyProof.Rows L2
/-! ### the def that hears -/
def hPos : List Stmt → List Pos
  | [.Assign [.Tuple [.Name _ a0, .Name _ a1] _ a2] (.Tuple [.Constant _ _ a3, .Constant _ _ a4] _ a5) a6, .Try [.Assign [.Name _ a7] (.Call (.Name _ a8) _ _ a9) a10] [.ExceptHandler (some (.Name _ a11)) _ [.Assign [.Name _ a12] (.Name _ a13) a14] a15] _ _ a16, .Return (some (.Tuple [.Name _ a17, .Name _ a18] _ a19)) a20] => [a0, a1, a2, a3, a4, a5, a6, a7, a8, a9, a10, a11, a12, a13, a14, a15, a16, a17, a18, a19, a20]
  | _ => []
theorem heard_of {P : Program} {K : PySem.W.Frag} {mg : Str → Option Value} {h : Hd} {pg : Pg} {d : He.DefD} {j : Nat} (hj : h.fn[j]? = some d) (hn : d.name = "_law_heard") (hq : d.qual = "_law_heard") (hb : d.body = heardBody pg.hv (hPos d.body)) (hs : d.scope = heardScope pg.hv)
    (bd : ∀ (K : PySem.W.Frag) (f : Addr) (fd : FuncData), FunD K d.name d.qual d.params d.body d.scope (d.dvs K) (d.kws K) f fd → Binds K fd [hAn pg.hv] []) (hL : pg.excs.contains "LotError" = true)
    (A : ∀ (i : Nat) d, h.fn[i]? = some d → ∃ fd, mg d.name = some (.ref (He.ga K d.name)) ∧ FunD K d.name d.qual d.params d.body d.scope (d.dvs K) (d.kws K) (He.fAd K d.at_) fd) (ha : d.at_ = (d.name, none)) (E : ∀ x, x ∈ pg.excs → EVX.ErrC P K mg x) : HeardF K mg pg.hv := by
  obtain ⟨fd, hm, F⟩ := A j d hj
  have B := bd K _ fd F
  have kp := F.kp
  have ea : He.fAd K d.at_ = He.ga K d.name := by rw [ha]; rfl
  rw [ea] at F kp
  obtain ⟨oc, od, dV, kV, doc, pm, an, cdv, ct, osl, e1, lk, hcd, _, _⟩ := F.ex
  rw [hn] at hm kp
  refine ⟨(E _ (List.contains_iff_mem.mp hL)).mg, He.ga K "_law_heard", d.params, hPos d.body, dV, kV, doc, pm, cdv, ct, oc, an, od, osl, hm, kp, ?_, by rw [← hq]; exact hcd, ?_⟩
  · rw [← hb, ← hs]
    rw [e1, hn, hq] at lk
    exact lk
  · rw [← hb, ← hs]
    rw [e1, hn, hq] at B
    exact B
end EV

namespace EV
open PySem PySem.Spec PyProof.Rows L2

/-! ### the drawing of the laws -/
abbrev ixc (i : Nat) (k : Int) : SE := cOp2 dIx (cVar i) (cCon (.int k))
abbrev inc (f : SE) : SE := cOpn bInt (aOf [f])
abbrev nuc (k : Int) : SE := cCon (.int k)
def primes : List SE := [nuc 2147483647, nuc 2147483629, nuc 2147483587, nuc 2147483579, nuc 2147483563]
def takeForm (A B C E G : Int) : SS :=
  sSeq (sIf [0] (tBl (cOp2 dGt (ixc 0 0) (nuc 0)))
    (sSeq (sSet 2 [0, 1] (cOp2 dMod (inc (ixc 0 0)) (cVar 1)))
      (sSeq (sSetIx 0 [0, 1] (cOp2 dDiv (ixc 0 0) (cVar 1)) [] (nuc 0)) (sRet [2] (cVar 2)))) sPass)
  (sSeq (sSetIx 0 [0] (cOp2 dAdd (ixc 0 2) (nuc 1)) [] (nuc 2))
  (sSeq (sSet 3 [0] (cOp2 dIx (cOpn gLstN (aOf primes)) (cOp2 dMod (inc (ixc 0 2)) (nuc 5))))
  (sSeq (sSet 4 [0, 3] (cOp2 dMod (inc (cOp2 dPow (inc (cOp2 dAdd (cOp2 dAdd (ixc 0 1) (cOp2 dMul (cOp2 dMul (nuc A) (ixc 0 2)) (ixc 0 2))) (nuc B))) (nuc 3))) (cVar 3)))
  (sSeq (sSet 4 [4, 0] (cOp2 dMod (inc (cOp2 dMul (cVar 4) (cOp2 dAdd (cOp2 dMod (inc (cVar 4)) (nuc C)) (cOp2 dMul (nuc E) (ixc 0 2))))) (nuc 2305843009213693907)))
  (sRet [4, 1] (cOp2 dMod (inc (cOp2 dDiv (cVar 4) (nuc G))) (cVar 1)))))))
def potForm (pg : Pg) (P Q A B C : Int) : SS :=
  sSeq (sSet 2 [1, 0] (cIf (tBl (cOp2 dLt (cVar 1) (cLen pg (cVar 0)))) (cOp2 dIx (cVar 0) (cVar 1)) (cOp2 dAdd (cOp2 dMul (nuc P) (cVar 1)) (nuc Q))))
  (sSeq (sSet 3 [2] (cOp2 dMul (cOp2 dMod (inc (cOpn bAbs (aOf [cVar 2]))) (cOp2 dPow (cOp2 dPow (nuc 10) (nuc 60)) (nuc 5))) (inc (cOp2 dGe (cOpn bAbs (aOf [cVar 2])) (cOp2 dPow (nuc 10) (nuc 18))))))
  (sSeq (sSet 4 [2] (cOp2 dMod (inc (cVar 2)) (nuc 2305843009213693951)))
  (sRet [3, 4, 1] (cOpn gLstN (aOf [cVar 3, cOp2 dMod (inc (cOp2 dAdd (cOp2 dAdd (cOp2 dMul (cVar 4) (nuc A)) (cOp2 dMul (cOp2 dMul (nuc B) (cVar 1)) (cVar 1))) (nuc C))) (nuc 2305843009213693921), nuc 0])))))
def cellsForm (pg : Pg) : SS := sRet [1, 0] (cOp1 gLR (cOpn bMaxA (aOf [nuc 1, cOpn bMinA (aOf [cVar 1, cLen pg (cVar 0)])])))
end EV

namespace EV
open PySem PySem.Spec PyProof.Rows L2

theorem R.bind_ok {α β : Type} (a : α) (S : Cells) (f : α → Cells → R β) : (R.ok a S).bind f = f a S := rfl
theorem cVar_view {i : Nat} {ca : Ca} {ms : List Nat} {ρ : SEn} {S : Cells} : cVar i ca (view ms ρ) S = match ρ[i]? with
    | some (some (d, o)) => if !o || ms.contains i then .ok (d, false) S else .no
    | _ => .no := by
  unfold cVar
  rw [view_get]
  cases h : ρ[i]? with
  | none => rfl
  | some x =>
    cases x with
    | none => rfl
    | some b =>
      obtain ⟨d, o⟩ := b
      cases o with
      | false => simp [viewB]
      | true =>
        simp only [Option.map_some, viewB]
        split <;> simp_all
theorem after_none {ms : List Nat} {ρ : SEn} {b : B} (h : ms.any (ownAt ρ) = false) : after ms ρ b = ρ := by
  unfold after
  rw [h]
  rfl
theorem small_mul {i j : Int} (h0 : 0 ≤ j) (h : j < 2 ^ 60) : mulOk i j = true := by
  unfold mulOk small64i
  have h1 : decide (-(2 ^ 64) < j) = true := by apply decide_eq_true; omega
  have h2 : decide (j < 2 ^ 64) = true := by apply decide_eq_true; omega
  rw [h1, h2]
  simp
theorem small_mulL {i j : Int} (h0 : 0 ≤ i) (h : i < 2 ^ 60) : mulOk i j = true := by
  unfold mulOk small64i
  have h1 : decide (-(2 ^ 64) < i) = true := by apply decide_eq_true; omega
  have h2 : decide (i < 2 ^ 64) = true := by apply decide_eq_true; omega
  rw [h1, h2]
  simp
theorem pow_small {i j : Int} {b : Nat} (h0 : i.natAbs < 2 ^ b) (hj : 0 ≤ j) (h : b * j.toNat ≤ 134217728) : powOk i j = true := by
  unfold powOk
  have : nbits i.natAbs ≤ b := by
    unfold nbits
    split
    · omega
    · rename_i hne
      have := (Nat.log2_lt hne).mpr h0
      omega
  have h2 : nbits i.natAbs * j.toNat ≤ 134217728 := Nat.le_trans (Nat.mul_le_mul_right _ this) h
  simp [hj, h2]
/-- a pot as it stands -/
structure Pot (S : Cells) (c : Nat) (a b n : Int) : Prop where
  at_ : S[c]? = some (.ls [.int a, .int b, .int n])
  a0 : 0 ≤ a
  b0 : 0 ≤ b
  b1 : b < 2 ^ 62
  n0 : 0 ≤ n
theorem take_pos {A B C E G a b n u : Int} {ca : Ca} {S : Cells} {c : Nat} (p : Pot S c a b n) (ha : 0 < a) (hu : 0 < u) (hu2 : u < 1073741824) :
    runF ⟨2, 5, takeForm A B C E G⟩ ca [.cel c, .int u] S = .ok (.int (a % u), false) (S.set c (.ls [.int (a / u), .int b, .int n])) := by
  have hS := p.at_
  have d1 : decide (0 < a) = true := decide_eq_true ha
  have d2 : decide (0 < u) = true := decide_eq_true hu
  have d3 : decide (u < 1073741824) = true := decide_eq_true hu2
  simp [runF, initE, takeForm, sSeq, sIf, exT, tBl, cOp2, cVar_view, R.bind_ok, cCon, lift, dIx, ixD, hS, atI, ixN, dGt, dCmp, bB, bI, ha, hu, hu2, sSet, ex1, cOpn, aOf, aCons, aNil, bInt, dMod, dInt, after, ownAt, sSetIx, dDiv, imm, sRet, endF]
theorem at0 (x y z : D) : atI [x, y, z] 0 = some x := rfl
theorem at1 (x y z : D) : atI [x, y, z] 1 = some y := rfl
theorem at2 (x y z : D) : atI [x, y, z] 2 = some z := rfl
theorem ix30 : ixN 3 0 = some 0 := rfl
theorem ix32 : ixN 3 2 = some 2 := rfl
/-- the primes -/
theorem prime_at {k : Int} (h0 : 0 ≤ k) (h : k < 5) : ∃ p : Int, 0 < p ∧ p < 2 ^ 31 ∧ atI [D.int 2147483647, D.int 2147483629, D.int 2147483587, D.int 2147483579, D.int 2147483563] k = some (.int p) := by
  have : k = 0 ∨ k = 1 ∨ k = 2 ∨ k = 3 ∨ k = 4 := by omega
  rcases this with rfl | rfl | rfl | rfl | rfl
  · exact ⟨2147483647, by decide, by decide, rfl⟩
  · exact ⟨2147483629, by decide, by decide, rfl⟩
  · exact ⟨2147483587, by decide, by decide, rfl⟩
  · exact ⟨2147483579, by decide, by decide, rfl⟩
  · exact ⟨2147483563, by decide, by decide, rfl⟩
theorem natAbs_pow_lt {i : Int} {b : Nat} (h1 : -(2 ^ b : Int) < i) (h2 : i < (2 ^ b : Int)) : i.natAbs < 2 ^ b := by
  have : (i.natAbs : Int) < ((2 ^ b : Nat) : Int) := by
    rw [Int.natCast_pow]
    simp only [Int.cast_ofNat_Int]
    omega
  exact Int.ofNat_lt.mp this
theorem take_zero {A B C E G b n u : Int} {ca : Ca} {S : Cells} {c : Nat} (p : Pot S c 0 b n) (hn : n < 2 ^ 40) (hu : 0 < u) (hu2 : u < 1073741824) (hA : 0 ≤ A ∧ A < 2 ^ 20) (hB : 0 ≤ B ∧ B < 2 ^ 20) (hC : 0 < C) (hE : 0 ≤ E ∧ E < 2 ^ 20) (hG : 0 < G ∧ G < 2 ^ 20) :
    ∃ r, runF ⟨2, 5, takeForm A B C E G⟩ ca [.cel c, .int u] S = .ok (.int r, false) (S.set c (.ls [.int 0, .int b, .int (n + 1)])) ∧ 0 ≤ r ∧ r < u := by
  have hS := p.at_
  have hc : c < S.length := (List.getElem?_eq_some_iff.mp hS).1
  have n0 := p.n0
  have m1 : mulOk A (n + 1) = true := small_mul (by omega) (by omega)
  have m2 : mulOk (A * (n + 1)) (n + 1) = true := small_mul (by omega) (by omega)
  have hAn : 0 ≤ A * (n + 1) * (n + 1) := Int.mul_nonneg (Int.mul_nonneg hA.1 (by omega)) (by omega)
  have hAn2 : A * (n + 1) * (n + 1) ≤ 2 ^ 20 * 2 ^ 41 * 2 ^ 41 := by
    have q1 : A * (n + 1) ≤ 2 ^ 20 * 2 ^ 41 := Int.mul_le_mul (by omega) (by omega) (by omega) (by decide)
    exact Int.mul_le_mul q1 (by omega) (by omega) (by decide)
  have hp : powOk (b + A * (n + 1) * (n + 1) + B) 3 = true := by
    have b0 := p.b0
    have b1 := p.b1
    refine pow_small (b := 110) (natAbs_pow_lt ?_ ?_) (by decide) (by decide)
    · have e : (2 : Int) ^ 110 = 1298074214633706907132624082305024 := by decide
      rw [e]; omega
    · have e : (2 : Int) ^ 110 = 1298074214633706907132624082305024 := by decide
      have e2 : (2 : Int) ^ 20 * 2 ^ 41 * 2 ^ 41 = 5070602400912917605986812821504 := by decide
      rw [e2] at hAn2
      rw [e]; omega
  obtain ⟨pr, p0, p1, hpr⟩ := prime_at (k := (n + 1) % 5) (Int.emod_nonneg _ (by decide)) (Int.emod_lt_of_pos _ (by decide))
  generalize hx : (b + A * (n + 1) * (n + 1) + B) ^ 3 % pr = x at *
  have x0 : 0 ≤ x := by rw [← hx]; exact Int.emod_nonneg _ (by omega)
  have x1 : x < pr := by rw [← hx]; exact Int.emod_lt_of_pos _ p0
  have m3 : mulOk E (n + 1) = true := small_mul (by omega) (by omega)
  have m4 : mulOk x (x % C + E * (n + 1)) = true := small_mulL x0 (by omega)
  refine ⟨x * (x % C + E * (n + 1)) % 2305843009213693907 / G % u, ?_, Int.emod_nonneg _ (by omega), Int.emod_lt_of_pos _ hu⟩
  have hG2 : G < 1073741824 := by omega
  have hl : (S.set c (Cel.ls [D.int 0, .int b, .int (n + 1)]))[c]? = some (Cel.ls [D.int 0, .int b, .int (n + 1)]) := List.getElem?_set_self hc
  have e3 : ((b + A * (n + 1) * (n + 1) + B) ^ (3 : Int).toNat) % pr = x := hx
  simp [runF, initE, takeForm, primes, sSeq, sIf, exT, tBl, cOp2, cVar_view, R.bind_ok, cCon, lift, dIx, ixD, hS, dGt, dCmp, bB, bI, hu, sSet, ex1, cOpn, aOf, aCons, aNil, bInt, dMod, dInt, after, ownAt, sSetIx, dDiv, imm, sRet, endF, sPass, dAdd, dMul, dPow, gLstN,
    hl, hpr, m1, m2, m3, m4, hp, hx, p0, hC, hG, hG2, at0, at1, at2, ix30, ix32]
end EV

namespace EV
open PySem PySem.Spec PyProof.Rows L2

structure TakeC (A B C E G : Int) : Prop where
  hA : 0 ≤ A ∧ A < 2 ^ 20
  hB : 0 ≤ B ∧ B < 2 ^ 20
  hC : 0 < C
  hE : 0 ≤ E ∧ E < 2 ^ 20
  hG : 0 < G ∧ G < 2 ^ 20
theorem Pot.set {S : Cells} {c : Nat} {a b n a' n' : Int} (p : Pot S c a b n) (ha : 0 ≤ a') (hn : 0 ≤ n') : Pot (S.set c (.ls [.int a', .int b, .int n'])) c a' b n' :=
  ⟨List.getElem?_set_self (List.getElem?_eq_some_iff.mp p.at_).1, ha, p.b0, p.b1, hn⟩
theorem take_spec {A B C E G a b n u : Int} (tc : TakeC A B C E G) {ca : Ca} {S : Cells} {c : Nat} (p : Pot S c a b n) (hn : n < 2 ^ 40) (hu : 0 < u) (hu2 : u < 1073741824) :
    ∃ r a' n', runF ⟨2, 5, takeForm A B C E G⟩ ca [.cel c, .int u] S = .ok (.int r, false) (S.set c (.ls [.int a', .int b, .int n'])) ∧ 0 ≤ r ∧ r < u ∧ n' ≤ n + 1 ∧ Pot (S.set c (.ls [.int a', .int b, .int n'])) c a' b n' := by
  by_cases h : 0 < a
  · exact ⟨_, _, n, take_pos p h hu hu2, Int.emod_nonneg _ (by omega), Int.emod_lt_of_pos _ hu, by omega, p.set (Int.ediv_nonneg p.a0 (by omega)) p.n0⟩
  · have e : a = 0 := by have := p.a0; omega
    subst e
    obtain ⟨r, q, r0, r1⟩ := take_zero (ca := ca) p hn hu hu2 tc.hA tc.hB tc.hC tc.hE tc.hG
    exact ⟨r, 0, n + 1, q, r0, r1, Int.le_refl _, p.set (Int.le_refl _) (by have := p.n0; omega)⟩
theorem pow10 : powOk 10 60 = true := by decide +kernel
theorem pow1060 : powOk 1000000000000000000000000000000000000000000000000000000000000 5 = true := by decide +kernel
theorem pow1018 : powOk 10 18 = true := by decide +kernel
theorem pot_spec {pg : Pg} {P Q A B C pl : Int} {ca : Ca} {S : Cells} {ns : List Int} (hP : 0 ≤ P ∧ P < 2 ^ 20) (hA : 0 ≤ A ∧ A < 2 ^ 20) (hpl : 0 ≤ pl) (hpl2 : pl < 2 ^ 20) :
    ∃ a b, runF ⟨2, 5, potForm pg P Q A B C⟩ ca [.scr ns, .int pl] S = .ok (.lst [.int a, .int b, .int 0], true) S ∧ 0 ≤ a ∧ 0 ≤ b ∧ b < 2 ^ 62 := by
  have cell : ∃ x : Int, runF ⟨2, 5, potForm pg P Q A B C⟩ ca [.scr ns, .int pl] S = .ok (.lst [.int ((if x < 0 then -x else x) % ((10 ^ 60) ^ 5) * (if 10 ^ 18 ≤ (if x < 0 then -x else x) then 1 else 0)), .int ((x % 2305843009213693951 * A + B * pl * pl + C) % 2305843009213693921), .int 0], true) S := by
    have m1 : mulOk P pl = true := small_mul hpl (by omega)
    have m2 : mulOk B pl = true := small_mul hpl (by omega)
    have m3 : mulOk (B * pl) pl = true := small_mul hpl (by omega)
    have m4 : ∀ i, mulOk i A = true := fun i => small_mul hA.1 (by omega)
    have m5 : ∀ (i : Int) (k : Prop) [Decidable k], mulOk i (if k then 1 else 0) = true := fun i k _ => by split <;> exact small_mul (by decide) (by decide)
    have z1 : (60 : Int).toNat = 60 := rfl
    have z2 : (5 : Int).toNat = 5 := rfl
    have z3 : (18 : Int).toNat = 18 := rfl
    by_cases h : pl < (ns.length : Int)
    · have h2 : pl.toNat < ns.length := by omega
      have hx : atI ns pl = some ns[pl.toNat] := by
        unfold atI ixN
        rw [if_pos hpl, if_pos h]
        simp [h2]
      refine ⟨ns[pl.toNat], ?_⟩
      simp [runF, initE, potForm, sSeq, sSet, ex1, after, ownAt, cIf, tBl, cOp2, cVar_view, R.bind_ok, cCon, lift, dLt, dCmp, bB, bI, cOpn, aOf, aCons, aNil, cLen, mtOk, bLen, lenD, h, dIx, ixD, hx, dMul, dMod, dInt, bInt, bAbs, dPow, dGe, sRet, endF, gLstN, dAdd, pow10, pow1060, pow1018, m1, m2, m3, m4, m5, z1, z2, z3]
    · refine ⟨P * pl + Q, ?_⟩
      simp [runF, initE, potForm, sSeq, sSet, ex1, after, ownAt, cIf, tBl, cOp2, cVar_view, R.bind_ok, cCon, lift, dLt, dCmp, bB, bI, cOpn, aOf, aCons, aNil, cLen, mtOk, bLen, lenD, h, dIx, ixD, dMul, dMod, dInt, bInt, bAbs, dPow, dGe, sRet, endF, gLstN, dAdd, pow10, pow1060, pow1018, m1, m2, m3, m4, m5, z1, z2, z3]
  obtain ⟨x, hx⟩ := cell
  refine ⟨_, _, hx, ?_, Int.emod_nonneg _ (by decide), ?_⟩
  · refine Int.mul_nonneg (Int.emod_nonneg _ (by decide)) ?_
    have : ∀ (k : Prop) [Decidable k], (0 : Int) ≤ if k then 1 else 0 := fun k _ => by
      by_cases h : k
      · rw [if_pos h]; decide
      · rw [if_neg h]; decide
    exact this _
  · have := Int.emod_lt_of_pos (x % 2305843009213693951 * A + B * pl * pl + C) (show (0 : Int) < 2305843009213693921 by decide)
    omega
theorem gLR_ok {S : Cells} {j : Int} (h1 : 1 ≤ j) (h2 : j < 1048576) : gLR S (.int j) = some (.lst (rangeD 0 j.toNat), true) := by
  have hj : (rngOk j && decide (j.toNat ≤ 16777216)) = true := by
    unfold rngOk
    simp only [Bool.and_eq_true, decide_eq_true_eq]
    omega
  unfold gLR
  simp only [hj, if_true]
def minI (i j : Int) : Int := if j < i then j else i
def maxI (i j : Int) : Int := if j > i then j else i
theorem cells_eq {pg : Pg} {ca : Ca} {S : Cells} {ns : List Int} {lim : Int} : runF ⟨2, 2, cellsForm pg⟩ ca [.scr ns, .int lim] S = lift (gLR S (.int (maxI 1 (minI lim ns.length)))) S := by
  have e : runF ⟨2, 2, cellsForm pg⟩ ca [.scr ns, .int lim] S = (((lift (gLR S (.int (maxI 1 (minI lim ns.length)))) S).bind fun b S => .ok ((b, [some (D.scr ns, false), some (D.int lim, false)]) : B × SEn) S).bind fun r S => .ok (Fl.rt r.1) S).bind endF := rfl
  rw [e]
  cases gLR S (.int (maxI 1 (minI lim ns.length))) <;> rfl
theorem cells_spec {pg : Pg} {ca : Ca} {S : Cells} {ns : List Int} {lim : Int} (hl : lim < 1048576) (hn : ns.length ≤ 63) :
    ∃ m : Nat, runF ⟨2, 2, cellsForm pg⟩ ca [.scr ns, .int lim] S = .ok (.lst (rangeD 0 m), true) S ∧ 1 ≤ m ∧ (m : Int) ≤ max 1 lim := by
  have h1 : 1 ≤ maxI 1 (minI lim ns.length) := by unfold maxI; split <;> omega
  have h2 : maxI 1 (minI lim ns.length) ≤ max 1 lim := by unfold maxI minI; split <;> split <;> omega
  rw [cells_eq, gLR_ok h1 (by omega)]
  exact ⟨_, rfl, by omega, by omega⟩
end EV

namespace EV
open PySem PySem.Spec PyProof.Rows L2

/-! ### evaluation by simp -/
def viewF (ms : List Nat) : Nat → SEn → En
  | _, [] => []
  | i, b :: ρ => viewB (ms.contains i) b :: viewF ms (i + 1) ρ
def giveF (ms : List Nat) : Nat → SEn → SEn
  | _, [] => []
  | i, b :: ρ => giveB (ms.contains i) b :: giveF ms (i + 1) ρ
theorem viewF_get {ms : List Nat} : ∀ {ρ : SEn} {j i : Nat}, (viewF ms j ρ)[i]? = (ρ[i]?).map (viewB (ms.contains (j + i)))
  | [], j, i => by simp [viewF]
  | b :: ρ, j, 0 => by simp [viewF]
  | b :: ρ, j, i + 1 => by
    have := viewF_get (ms := ms) (ρ := ρ) (j := j + 1) (i := i)
    simp only [viewF, List.getElem?_cons_succ, this]
    congr 2
    congr 1
    omega
theorem giveF_get {ms : List Nat} : ∀ {ρ : SEn} {j i : Nat}, (giveF ms j ρ)[i]? = (ρ[i]?).map (giveB (ms.contains (j + i)))
  | [], j, i => by simp [giveF]
  | b :: ρ, j, 0 => by simp [giveF]
  | b :: ρ, j, i + 1 => by
    have := giveF_get (ms := ms) (ρ := ρ) (j := j + 1) (i := i)
    simp only [giveF, List.getElem?_cons_succ, this]
    congr 2
    congr 1
    omega
theorem view_eqF (ms : List Nat) (ρ : SEn) : view ms ρ = viewF ms 0 ρ := by
  apply List.ext_getElem?
  intro i
  rw [view_get, viewF_get]
  simp
theorem give_eqF (ms : List Nat) (ρ : SEn) : give ms ρ = giveF ms 0 ρ := by
  apply List.ext_getElem?
  intro i
  rw [give_get, giveF_get]
  simp
theorem sRet_eq (ms : List Nat) (f : SE) (ca : Ca) (ρ : SEn) (S : Cells) : sRet ms f ca ρ S = (f ca (viewF ms 0 ρ) S).bind fun b S => .ok (.rt b) S := by
  unfold sRet ex1
  rw [view_eqF]
  cases f ca (viewF ms 0 ρ) S <;> rfl
theorem exT_eq (ms : List Nat) (t : ST) (ca : Ca) (ρ : SEn) (S : Cells) : exT ms t ca ρ S = t ca (viewF ms 0 ρ) S := by
  unfold exT
  rw [view_eqF]
theorem ex1_eq (ms : List Nat) (f : SE) (ca : Ca) (ρ : SEn) (S : Cells) : ex1 ms f ca ρ S = (f ca (viewF ms 0 ρ) S).bind fun b S => .ok (b, if ms.any (ownAt ρ) && !immB b then giveF ms 0 ρ else ρ) S := by
  unfold ex1 after
  rw [view_eqF, give_eqF]
theorem exI_eq (ms : List Nat) (it : SI) (ca : Ca) (ρ : SEn) (S : Cells) : exI ms it ca ρ S = (it ca (viewF ms 0 ρ) S).bind fun ds S => .ok (ds, if ms.any (ownAt ρ) then giveF ms 0 ρ else ρ) S := by
  unfold exI
  rw [view_eqF, give_eqF]
theorem runB_fn {n N : Nat} {f : SS} {ca : Ca} {ds : List D} {S : Cells} (h : ds.length = n) : runB (.fn ⟨n, N, f⟩) ca ds S = (f ca (initE N ds) S).bind endF := by
  show (if ds.length = n then (f ca (initE N ds) S).bind endF else .no) = _
  rw [if_pos h]
theorem sSeq_nx {f g : SS} {ca : Ca} {ρ ρ' : SEn} {S S' : Cells} (h : f ca ρ S = .ok (.nx ρ') S') : sSeq f g ca ρ S = g ca ρ' S' := by
  unfold sSeq
  rw [h]
  rfl
theorem sSeq_rt {f g : SS} {ca : Ca} {ρ : SEn} {b : B} {S S' : Cells} (h : f ca ρ S = .ok (.rt b) S') : sSeq f g ca ρ S = .ok (.rt b) S' := by
  unfold sSeq
  rw [h]
  rfl
theorem aOf_nil (ca : Ca) (ρ : En) (S : Cells) : aOf [] ca ρ S = .ok [] S := rfl
theorem aOf_cons (f : SE) (fs : List SE) (ca : Ca) (ρ : En) (S : Cells) : aOf (f :: fs) ca ρ S = (f ca ρ S).bind fun b S => (aOf fs ca ρ S).bind fun ds S => .ok (b.1 :: ds) S := rfl
/-! comprehensions without effects -/
theorem compL_pure {bnd : D → Option En} {t : En → Cells → R Bool} {e : En → Cells → R B} {S : Cells} (p : D → Bool) (g : D → D) : ∀ (ds acc : List D), (∀ d, d ∈ ds → ∃ ρ, bnd d = some ρ ∧ t ρ S = .ok (p d) S ∧ (p d = true → ∃ o, e ρ S = .ok (g d, o) S)) →
    compL bnd t e ds acc S = .ok (acc ++ (ds.filter p).map g) S
  | [], acc, _ => by simp [compL]
  | d :: ds, acc, h => by
    obtain ⟨ρ, h1, h2, h3⟩ := h d (List.mem_cons_self ..)
    have ih := fun acc => compL_pure p g ds acc fun d hd => h d (List.mem_cons_of_mem _ hd)
    unfold compL
    rw [h1]
    simp only [h2]
    cases hp : p d with
    | false =>
      show compL bnd t e ds acc S = _
      rw [ih, List.filter_cons_of_neg (by simp [hp])]
    | true =>
      obtain ⟨o, h4⟩ := h3 hp
      show ((e ρ S).noX.bind fun v S => compL bnd t e ds (acc ++ [v.1]) S) = _
      rw [h4]
      show compL bnd t e ds (acc ++ [g d]) S = _
      rw [ih, List.filter_cons_of_pos hp]
      simp
/-- [e for x in xs if t], nothing changes; enc: what the items stand for -/
theorem comp_e2 {α : Type} {it : SI} {vs : List Nat} {pt : Pt} {t : ST} {e : SE} {ca : Ca} {ρ : En} {S0 S : Cells} (enc : α → D) (xs : List α) (p : α → Bool) (g : α → D) (hi : it ca ρ S0 = .ok (xs.map enc) S)
    (h : ∀ x, x ∈ xs → ∃ ρ', bindP pt (enc x) (wipeE ρ vs) = some ρ' ∧ t ca ρ' S = .ok (p x) S ∧ (p x = true → ∃ o, e ca ρ' S = .ok (g x, o) S)) :
    cComp it vs pt t e ca ρ S0 = .ok (.lst ((xs.filter p).map g), true) S := by
  unfold cComp
  rw [hi]
  show (compL (fun d => bindP pt d (wipeE ρ vs)) (t ca) (e ca) (xs.map enc) [] S).bind _ = _
  have key : ∀ (xs : List α) (acc : List D), (∀ x, x ∈ xs → ∃ ρ', bindP pt (enc x) (wipeE ρ vs) = some ρ' ∧ t ca ρ' S = .ok (p x) S ∧ (p x = true → ∃ o, e ca ρ' S = .ok (g x, o) S)) →
      compL (fun d => bindP pt d (wipeE ρ vs)) (t ca) (e ca) (xs.map enc) acc S = .ok (acc ++ (xs.filter p).map g) S := by
    intro xs
    induction xs with
    | nil => intro acc _; simp [compL]
    | cons x xs ih =>
      intro acc h
      obtain ⟨ρ', h1, h2, h3⟩ := h x (List.mem_cons_self ..)
      have ih' := fun acc => ih acc fun y hy => h y (List.mem_cons_of_mem _ hy)
      simp only [List.map_cons]
      unfold compL
      simp only [h1, h2]
      cases hp : p x with
      | false =>
        show compL _ (t ca) (e ca) (xs.map enc) acc S = _
        rw [ih', List.filter_cons_of_neg (by simp [hp])]
      | true =>
        obtain ⟨o, h4⟩ := h3 hp
        show ((e ca ρ' S).noX.bind fun v S => compL _ (t ca) (e ca) (xs.map enc) (acc ++ [v.1]) S) = _
        rw [h4]
        show compL _ (t ca) (e ca) (xs.map enc) (acc ++ [g x]) S = _
        rw [ih', List.filter_cons_of_pos hp]
        simp
  rw [key xs [] h]
  simp [R.bind]
/-- without an if -/
theorem comp_m2 {α : Type} {it : SI} {vs : List Nat} {pt : Pt} {e : SE} {ca : Ca} {ρ : En} {S0 S : Cells} (enc : α → D) (xs : List α) (g : α → D) (hi : it ca ρ S0 = .ok (xs.map enc) S)
    (h : ∀ x, x ∈ xs → ∃ ρ', bindP pt (enc x) (wipeE ρ vs) = some ρ' ∧ ∃ o, e ca ρ' S = .ok (g x, o) S) :
    cComp it vs pt tYesT e ca ρ S0 = .ok (.lst (xs.map g), true) S := by
  have := comp_e2 (t := tYesT) enc xs (fun _ => true) g hi fun x hx => by
    obtain ⟨ρ', h1, h2⟩ := h x hx
    exact ⟨ρ', h1, rfl, fun _ => h2⟩
  have e : xs.filter (fun _ => true) = xs := by simp
  rw [e] at this
  exact this
theorem comp_e {α : Type} {it : SI} {vs : List Nat} {pt : Pt} {t : ST} {e : SE} {ca : Ca} {ρ : En} {S : Cells} (enc : α → D) (xs : List α) (p : α → Bool) (g : α → D) (hi : it ca ρ S = .ok (xs.map enc) S)
    (h : ∀ x, x ∈ xs → ∃ ρ', bindP pt (enc x) (wipeE ρ vs) = some ρ' ∧ t ca ρ' S = .ok (p x) S ∧ (p x = true → ∃ o, e ca ρ' S = .ok (g x, o) S)) :
    cComp it vs pt t e ca ρ S = .ok (.lst ((xs.filter p).map g), true) S := comp_e2 enc xs p g hi h
theorem comp_m {α : Type} {it : SI} {vs : List Nat} {pt : Pt} {e : SE} {ca : Ca} {ρ : En} {S : Cells} (enc : α → D) (xs : List α) (g : α → D) (hi : it ca ρ S = .ok (xs.map enc) S)
    (h : ∀ x, x ∈ xs → ∃ ρ', bindP pt (enc x) (wipeE ρ vs) = some ρ' ∧ ∃ o, e ca ρ' S = .ok (g x, o) S) :
    cComp it vs pt tYesT e ca ρ S = .ok (.lst (xs.map g), true) S := comp_m2 enc xs g hi h
/-! data: enc tells what a thing is -/
structure Fa {α : Type} [DecidableEq α] (n : Nat) (enc : α → D) : Prop where
  pl : ∀ a, pln (enc a) = true
  dp : ∀ a, (toP (enc a)).depth ≤ n
  eq : ∀ a b, eqS (enc a) (enc b) = decide (a = b)
theorem Fa.str : Fa 0 D.str := ⟨fun _ => rfl, fun a => by simp [toP, PyData.depth], fun a b => by
  simp only [eqS, toP, PyData.eqv]
  by_cases h : a = b <;> simp [h]⟩
theorem Fa.int : Fa 0 D.int := ⟨fun _ => rfl, fun a => by simp [toP, PyData.depth], fun a b => by
  simp only [eqS, toP, PyData.eqv]
  by_cases h : a = b <;> simp [h]⟩
theorem plnL_of {α : Type} {enc : α → D} : ∀ {xs : List α}, (∀ x, x ∈ xs → pln (enc x) = true) → plnL (xs.map enc) = true
  | [], _ => rfl
  | x :: xs, h => by simp [plnL, h x (List.mem_cons_self ..), plnL_of fun y hy => h y (List.mem_cons_of_mem _ hy)]
theorem toPL_map {α : Type} {enc : α → D} : ∀ (xs : List α), toPL (xs.map enc) = xs.map fun x => toP (enc x)
  | [] => rfl
  | x :: xs => by simp [toPL, toPL_map xs]
theorem depthAll_map {α : Type} {f : α → PyData} {n : Nat} : ∀ {xs : List α}, (∀ x, x ∈ xs → (f x).depth ≤ n) → PyData.depthAll (xs.map f) ≤ n
  | [], _ => by simp [PyData.depthAll]
  | x :: xs, h => by
    have h1 := h x (List.mem_cons_self ..)
    have h2 := depthAll_map (xs := xs) fun y hy => h y (List.mem_cons_of_mem _ hy)
    simp only [List.map_cons, PyData.depthAll]
    omega
theorem eqvAll_map {α : Type} [DecidableEq α] {f : α → PyData} (h : ∀ a b, PyData.eqv (f a) (f b) = decide (a = b)) : ∀ (xs ys : List α), PyData.eqvAll (xs.map f) (ys.map f) = decide (xs = ys)
  | [], [] => by simp [PyData.eqvAll]
  | [], _ :: _ => by simp [PyData.eqvAll]
  | _ :: _, [] => by simp [PyData.eqvAll]
  | x :: xs, y :: ys => by
    simp only [List.map_cons, PyData.eqvAll, h, eqvAll_map h xs ys]
    by_cases h1 : x = y <;> by_cases h2 : xs = ys <;> simp [h1, h2]
theorem Fa.tup {α : Type} [DecidableEq α] {n : Nat} {enc : α → D} (f : Fa n enc) : Fa (n + 1) (fun xs : List α => D.tup (xs.map enc)) := ⟨fun xs => by simp only [pln]; exact plnL_of fun x _ => f.pl x, fun xs => by
  simp only [toP, toPL_map, PyData.depth]
  have := depthAll_map (f := fun x => toP (enc x)) (xs := xs) fun x _ => f.dp x
  omega, fun xs ys => by
  simp only [eqS, toP, toPL_map, PyData.eqv]
  exact eqvAll_map (fun a b => f.eq a b) xs ys⟩
theorem Fa.lst {α : Type} [DecidableEq α] {n : Nat} {enc : α → D} (f : Fa n enc) : Fa (n + 1) (fun xs : List α => D.lst (xs.map enc)) := ⟨fun xs => by simp only [pln]; exact plnL_of fun x _ => f.pl x, fun xs => by
  simp only [toP, toPL_map, PyData.depth]
  have := depthAll_map (f := fun x => toP (enc x)) (xs := xs) fun x _ => f.dp x
  omega, fun xs ys => by
  simp only [eqS, toP, toPL_map, PyData.eqv]
  exact eqvAll_map (fun a b => f.eq a b) xs ys⟩
section
variable {α : Type} [DecidableEq α] {n : Nat} {enc : α → D}
theorem Fa.flat (f : Fa n enc) (hn : n ≤ 100) (a : α) : flatD (enc a) = true := by
  have := f.dp a
  simp only [flatD, decide_eq_true_eq]
  omega
theorem Fa.dEq (f : Fa n enc) (hn : n ≤ 100) (S : Cells) (a b : α) : EV.dEq S (enc a) (enc b) = some (.bl (decide (a = b)), false) := by
  unfold EV.dEq
  simp [f.pl, f.flat hn, f.eq, bB]
theorem Fa.dNe (f : Fa n enc) (hn : n ≤ 100) (S : Cells) (a b : α) : EV.dNe S (enc a) (enc b) = some (.bl (decide (a ≠ b)), false) := by
  unfold EV.dNe
  simp [f.pl, f.flat hn, f.eq, bB]
theorem Fa.anyEq (f : Fa n enc) (a : α) (xs : List α) : EV.anyEq (enc a) (xs.map enc) = decide (a ∈ xs) := by
  unfold EV.anyEq
  rw [List.any_map]
  induction xs with
  | nil => simp
  | cons x xs ih =>
    simp only [List.any_cons, Function.comp, f.eq] at ih ⊢
    rw [ih]
    by_cases h : x = a
    · subst h; simp
    · simp [h, Ne.symm h]
theorem Fa.inT (f : Fa n enc) (hn : n ≤ 100) (S : Cells) (a : α) (xs : List α) : EV.dIn S (enc a) (.tup (xs.map enc)) = some (.bl (decide (a ∈ xs)), false) := by
  unfold EV.dIn isIn
  simp only [f.pl, f.flat hn, plnL_of (fun x _ => f.pl x), f.anyEq, Bool.and_self, if_true, Option.bind_some, bB]
theorem Fa.inL (f : Fa n enc) (hn : n ≤ 100) (S : Cells) (a : α) (xs : List α) : EV.dIn S (enc a) (.lst (xs.map enc)) = some (.bl (decide (a ∈ xs)), false) := by
  unfold EV.dIn isIn
  simp only [f.pl, f.flat hn, plnL_of (fun x _ => f.pl x), f.anyEq, Bool.and_self, if_true, Option.bind_some, bB]
theorem Fa.ninT (f : Fa n enc) (hn : n ≤ 100) (S : Cells) (a : α) (xs : List α) : EV.dNotIn S (enc a) (.tup (xs.map enc)) = some (.bl (!decide (a ∈ xs)), false) := by
  unfold EV.dNotIn isIn
  simp only [f.pl, f.flat hn, plnL_of (fun x _ => f.pl x), f.anyEq, Bool.and_self, if_true, Option.bind_some, bB]
theorem Fa.ninL (f : Fa n enc) (hn : n ≤ 100) (S : Cells) (a : α) (xs : List α) : EV.dNotIn S (enc a) (.lst (xs.map enc)) = some (.bl (!decide (a ∈ xs)), false) := by
  unfold EV.dNotIn isIn
  simp only [f.pl, f.flat hn, plnL_of (fun x _ => f.pl x), f.anyEq, Bool.and_self, if_true, Option.bind_some, bB]
end
theorem blsD_map {α : Type} (f : α → Bool) : ∀ xs : List α, blsD (xs.map fun x => .bl (f x)) = some (xs.map f)
  | [] => rfl
  | x :: xs => by simp [blsD, blsD_map f xs]
theorem bAll_map {α : Type} (S : Cells) (f : α → Bool) (xs : List α) : bAll S [.lst (xs.map fun x => .bl (f x))] = some (.bl (xs.all f), false) := by
  simp [bAll, blsD_map, bB, Function.comp_def]
theorem bAny_map {α : Type} (S : Cells) (f : α → Bool) (xs : List α) : bAny S [.lst (xs.map fun x => .bl (f x))] = some (.bl (xs.any f), false) := by
  simp [bAny, blsD_map, bB, Function.comp_def]
/-- a lot, a tuple of lots, a list of lots -/
def nS (xs : List Str) : D := .tup (xs.map .str)
def nF (xss : List (List Str)) : D := .tup (xss.map nS)
def nL (xss : List (List Str)) : D := .lst (xss.map nS)
theorem fS : Fa 0 D.str := Fa.str
theorem fN : Fa 1 nS := Fa.str.tup
theorem fF : Fa 2 nF := Fa.str.tup.tup
theorem fL : Fa 2 nL := Fa.str.tup.lst
/-! loops without a return -/
theorem forL_fold {α β : Type} {p : Pt} {body : SEn → Cells → R Fl} {S : Cells} (enc : α → D) (st : β → SEn) (step : β → α → β) : ∀ (xs : List α) (b : β), (∀ x, x ∈ xs → ∀ b, ∃ ρ, bindS p (enc x) (st b) = some ρ ∧ body ρ S = .ok (.nx (st (step b x))) S) → forL p body (xs.map enc) (st b) S = .ok (.nx (st (xs.foldl step b))) S
  | [], b, _ => rfl
  | x :: xs, b, h => by
    obtain ⟨ρ, h1, h2⟩ := h x (List.mem_cons_self ..) b
    simp only [List.map_cons, forL, h1, h2, R.bind_ok]
    exact forL_fold enc st step xs (step b x) fun y hy => h y (List.mem_cons_of_mem _ hy)
/-! an own list grows -/
theorem sExt_own {k : Nat} {ms : List Nat} {f : SE} {ca : Ca} {ρ : SEn} {S S' : Cells} {as es : List D} {o : Bool} (h0 : ρ[k]? = some (some (.lst as, true))) (hf : f ca (viewF ms 0 ρ) S = .ok (.lst es, o) S') (hg : (ms.any (ownAt ρ) && !immB (.lst es, o)) = false) (hz : as.length + es.length ≤ 16777216) :
    sExt k ms f ca ρ S = .ok (.nx (ρ.set k (some (.lst (as ++ es), true)))) S' := by
  unfold sExt
  simp only [h0, ex1_eq, hf, R.bind_ok, hg, Bool.false_eq_true, if_false, hz, if_true]
theorem sApp_own {k : Nat} {ms : List Nat} {f : SE} {ca : Ca} {ρ : SEn} {S S' : Cells} {as : List D} {d : D} {o : Bool} (h0 : ρ[k]? = some (some (.lst as, true))) (hf : f ca (viewF ms 0 ρ) S = .ok (d, o) S') (hg : (ms.any (ownAt ρ) && !immB (d, o)) = false) (hz : as.length < 16777216) :
    sApp k ms f ca ρ S = .ok (.nx (ρ.set k (some (.lst (as ++ [d]), true)))) S' := by
  unfold sApp
  simp only [h0, ex1_eq, hf, R.bind_ok, hg, Bool.false_eq_true, if_false, hz, if_true]
theorem forL_st {α : Type} {p : Pt} {body : SEn → Cells → R Fl} (enc : α → D) (P : List α → SEn → Cells → Prop) {all : List α} (hb : ∀ pre x post ρ S, all = pre ++ x :: post → P pre ρ S → ∃ ρ1 ρ2 S2, bindS p (enc x) ρ = some ρ1 ∧ body ρ1 S = .ok (.nx ρ2) S2 ∧ P (pre ++ [x]) ρ2 S2) :
    ∀ (xs pre : List α) (ρ : SEn) (S : Cells), all = pre ++ xs → P pre ρ S → ∃ ρ' S', forL p body (xs.map enc) ρ S = .ok (.nx ρ') S' ∧ P all ρ' S'
  | [], pre, ρ, S, e, h => ⟨ρ, S, rfl, by rw [e]; simpa using h⟩
  | x :: xs, pre, ρ, S, e, h => by
    obtain ⟨ρ1, ρ2, S2, b1, b2, b3⟩ := hb pre x xs ρ S e h
    obtain ⟨ρ', S', q1, q2⟩ := forL_st enc P hb xs (pre ++ [x]) ρ2 S2 (by rw [e]; simp) b3
    refine ⟨ρ', S', ?_, q2⟩
    simp only [List.map_cons, forL, b1, b2, R.bind_ok]
    exact q1
theorem forL_all {α : Type} {p : Pt} {body : SEn → Cells → R Fl} (enc : α → D) (P : List α → SEn → Cells → Prop) (xs : List α) {ρ : SEn} {S : Cells} (h0 : P [] ρ S) (hb : ∀ pre x post ρ S, xs = pre ++ x :: post → P pre ρ S → ∃ ρ1 ρ2 S2, bindS p (enc x) ρ = some ρ1 ∧ body ρ1 S = .ok (.nx ρ2) S2 ∧ P (pre ++ [x]) ρ2 S2) :
    ∃ ρ' S', forL p body (xs.map enc) ρ S = .ok (.nx ρ') S' ∧ P xs ρ' S' := forL_st enc P hb xs [] ρ S rfl h0
/-- enumerate -/
def enumG (k : Nat) : List D → List D
  | [] => []
  | d :: ds => .tup [.int (k : Nat), d] :: enumG (k + 1) ds
theorem enumG_get : ∀ (ds : List D) (k i : Nat), (enumG k ds)[i]? = (ds[i]?).map fun d => .tup [.int ((k + i : Nat) : Int), d]
  | [], k, i => by simp [enumG]
  | d :: ds, k, 0 => by simp [enumG]
  | d :: ds, k, i + 1 => by
    simp only [enumG, List.getElem?_cons_succ, enumG_get ds (k + 1) i]
    congr 1
    funext d
    have : k + 1 + i = k + (i + 1) := by omega
    rw [this]
theorem enumD_eq (ds : List D) : enumD ds = enumG 0 ds := by
  apply List.ext_getElem?
  intro i
  rw [enumG_get]
  unfold enumD
  rw [List.getElem?_map]
  by_cases h : i < ds.length
  · rw [List.getElem?_range h]
    simp [List.getD_eq_getElem?_getD, h]
  · rw [List.getElem?_eq_none (by simp; omega), List.getElem?_eq_none (by omega)]
    rfl
/-! sorted -/
theorem sort_two {le : D → D → Bool} : ∀ {m n : List D}, m.Pairwise (fun a b => le a b = true) → n.Pairwise (fun a b => le b a = false) → m.Perm n → m = n
  | [], n, _, _, h => (List.Perm.eq_nil h.symm).symm
  | a :: m, [], _, _, h => absurd h.length_eq (by simp)
  | a :: m, b :: n, h1, h2, h => by
    have h1' := List.pairwise_cons.mp h1
    have h2' := List.pairwise_cons.mp h2
    have e : a = b := by
      rcases List.mem_cons.mp (h.mem_iff.mp (List.mem_cons_self (a := a) (l := m))) with e | ha
      · exact e
      · rcases List.mem_cons.mp (h.mem_iff.mpr (List.mem_cons_self (a := b) (l := n))) with e | hb
        · exact e.symm
        · have q1 := h1'.1 b hb
          have q2 := h2'.1 a ha
          rw [q1] at q2
          cases q2
    subst e
    rw [sort_two h1'.2 h2'.2 h.cons_inv]
def strB : List D → Bool
  | [] => true
  | l :: ls => (ls.all fun m => !leD m l) && strB ls
theorem strB_ok : ∀ {ls : List D}, strB ls = true → ls.Pairwise fun a b => leD b a = false
  | [], _ => .nil
  | l :: ls, h => by
    simp only [strB, Bool.and_eq_true] at h
    refine .cons (fun m hm => ?_) (strB_ok h.2)
    have := List.all_eq_true.mp h.1 m hm
    simpa using this
theorem leD_total : PySem.W.TotalLe leD := by
  unfold leD PySem.W.dataLe
  exact PySem.W.sortLe_total _ _ _
theorem sort_is {l l' : List D} (h : strB l' = true) (hp : l'.Perm l) : l.mergeSort leD = l' :=
  sort_two (le := leD) (PySem.W.sort_pairwise (le := leD) leD_total l) (strB_ok h) ((List.mergeSort_perm l leD).trans hp.symm)
end EV

namespace EV
open PySem PySem.Spec PyProof.Rows L2

theorem immB_false {d : D} : immB (d, false) = imm d := by cases d <;> rfl
theorem sSetIx_own {k : Nat} {ms ms2 : List Nat} {f fi : SE} {ca : Ca} {ρ : SEn} {S : Cells} {as : List D} {d : D} {i : Int} {jj : Nat} (h0 : ρ[k]? = some (some (.lst as, true))) (hf : f ca (viewF ms 0 ρ) S = .ok (d, false) S) (hd : imm d = true) (hi : fi ca (viewF ms2 0 ρ) S = .ok (.int i, false) S) (hx : ixN as.length i = some jj) :
    sSetIx k ms f ms2 fi ca ρ S = .ok (.nx (ρ.set k (some (.lst (as.set jj d), true)))) S := by
  unfold sSetIx
  simp only [ex1_eq, hf, R.bind_ok, immB_false, hd, Bool.not_true, Bool.and_false, Bool.false_eq_true, if_false, h0, hi, imm, hx]
theorem sAppPop_own {ka kb : Nat} {ms : List Nat} {f : SE} {ca : Ca} {ρ : SEn} {S S' : Cells} {as bs : List D} {d : D} {i : Int} {jj : Nat} (ha : ρ[ka]? = some (some (.lst as, true))) (hb : ρ[kb]? = some (some (.lst bs, true))) (hf : f ca (viewF ms 0 ρ) S = .ok (.int i, false) S') (hx : ixN bs.length i = some jj) (hd : bs[jj]? = some d) (hz : as.length < 16777216) (hp : popI i = true) (hne : ka ≠ kb) :
    sAppPop ka kb ms f ca ρ S = .ok (.nx ((ρ.set kb (some (.lst (bs.eraseIdx jj), true))).set ka (some (.lst (as ++ [d]), true)))) S' := by
  unfold sAppPop
  have hz' : decide (as.length < 16777216) = true := decide_eq_true hz
  have hn : (ka != kb) = true := by simpa using hne
  simp only [ha, hb, ex1_eq, hf, R.bind_ok, immB_false, imm, Bool.not_true, Bool.and_false, Bool.false_eq_true, if_false, hx, hd, hz', hp, hn, Bool.and_self, if_true]
/-! comprehensions with effects: all turns alike -/
theorem comp_st {α : Type} {it : SI} {vs : List Nat} {pt : Pt} {e : SE} {ca : Ca} {ρ : En} {S0 S : Cells} (enc : α → D) (xs : List α) (g : α → D) (P : Nat → Cells → Prop) (hi : it ca ρ S0 = .ok (xs.map enc) S) (h0 : P 0 S)
    (h : ∀ (k : Nat) x S, k < xs.length → x ∈ xs → P k S → ∃ ρ' o S', bindP pt (enc x) (wipeE ρ vs) = some ρ' ∧ e ca ρ' S = .ok (g x, o) S' ∧ P (k + 1) S') :
    ∃ S', cComp it vs pt tYesT e ca ρ S0 = .ok (.lst (xs.map g), true) S' ∧ P xs.length S' := by
  have key : ∀ (ys : List α) (k : Nat) (acc : List D) (S : Cells), (∀ x, x ∈ ys → x ∈ xs) → k + ys.length = xs.length → P k S → ∃ S', compL (fun d => bindP pt d (wipeE ρ vs)) (tYesT ca) (e ca) (ys.map enc) acc S = .ok (acc ++ ys.map g) S' ∧ P xs.length S' := by
    intro ys
    induction ys with
    | nil =>
      intro k acc S _ hk hP
      refine ⟨S, by simp [compL], ?_⟩
      have : k = xs.length := by simpa using hk
      exact this ▸ hP
    | cons x ys ih =>
      intro k acc S hm hk hP
      simp at hk
      obtain ⟨ρ', o, S1, b1, b2, b3⟩ := h k x S (by omega) (hm x (List.mem_cons_self ..)) hP
      obtain ⟨S2, q1, q2⟩ := ih (k + 1) (acc ++ [g x]) S1 (fun y hy => hm y (List.mem_cons_of_mem _ hy)) (by omega) b3
      refine ⟨S2, ?_, q2⟩
      simp only [List.map_cons]
      unfold compL
      simp only [b1]
      show ((e ca ρ' S).noX.bind fun v S => compL _ (tYesT ca) (e ca) (ys.map enc) (acc ++ [v.1]) S) = _
      rw [b2]
      show compL _ (tYesT ca) (e ca) (ys.map enc) (acc ++ [g x]) S1 = _
      rw [q1]
      simp
  obtain ⟨S2, q1, q2⟩ := key xs 0 [] S (fun _ h => h) (by simp) h0
  refine ⟨S2, ?_, q2⟩
  unfold cComp
  rw [hi]
  show (compL (fun d => bindP pt d (wipeE ρ vs)) (tYesT ca) (e ca) (xs.map enc) [] S).bind _ = _
  rw [q1]
  simp [R.bind]
/-! the state: pots -/
def isIntC : Cel → Bool
  | .ls ds => ds.all fun d => match d with
    | .int _ => true
    | _ => false
  | .tb _ _ => true
  | _ => false
theorem intC_cfr {n : Nat} {o : Cel} (h : isIntC o = true) : cfrC n o = true := by
  cases o with
  | ob _ _ _ => cases h
  | tb _ _ => rfl
  | ls ds =>
    show cfrL n ds = true
    have h' : (ds.all fun d => match d with | .int _ => true | _ => false) = true := h
    clear h
    induction ds with
    | nil => rfl
    | cons d ds ih =>
      simp only [List.all_cons, Bool.and_eq_true] at h'
      cases d <;> first | cases h'.1 | skip
      simp only [cfrL, cfr, Bool.true_and]
      exact ih h'.2
/-- the shape of a state: where the tables stand -/
abbrev Shp := List (Option (Str × Str))
def shpC : Cel → Option (Str × Str)
  | .tb n q => some (n, q)
  | _ => none
theorem shp_set {S : Cells} {c : Nat} {xs ys : List D} (h : S[c]? = some (.ls xs)) : (S.set c (.ls ys)).map shpC = S.map shpC := by
  apply List.ext_getElem?
  intro i
  rw [List.getElem?_map, List.getElem?_map]
  by_cases hi : c = i
  · subst hi
    rw [h, List.getElem?_set_self (by exact (List.getElem?_eq_some_iff.mp h).1)]
    rfl
  · rw [List.getElem?_set_ne hi]
theorem tb_in {S : Cells} {L : Shp} {n : Str} (h : S.map shpC = L) (hn : some (n, lamQ n) ∈ L) : S.any (isTb n) = true := by
  subst h
  obtain ⟨o, ho, e⟩ := List.mem_map.mp hn
  refine List.any_eq_true.mpr ⟨o, ho, ?_⟩
  cases o with
  | tb k q =>
    have e' : some (k, q) = some (n, lamQ n) := e
    cases e'
    simp [isTb]
  | ls _ => cases e
  | ob _ _ _ => cases e
structure Ps (c : Nat) (L : Shp) (M : Int) (S : Cells) : Prop where
  pot : ∃ a b n, Pot S c a b n ∧ n ≤ M
  shp : S.map shpC = L
  itc : ∀ o, o ∈ S → isIntC o = true
theorem Ps.mono {c : Nat} {L : Shp} {M M' : Int} {S : Cells} (p : Ps c L M S) (h : M ≤ M') : Ps c L M' S := ⟨by
  obtain ⟨a, b, n, h1, h2⟩ := p.pot
  exact ⟨a, b, n, h1, by omega⟩, p.shp, p.itc⟩
def TakesP (ca : Ca) : Prop := ∀ (c : Nat) (L : Shp) (M u : Int) (S : Cells), Ps c L M S → M < 2 ^ 40 → 0 < u → u < 1073741824 → ∃ r S', ca ("_law_take", none) [.cel c, .int u] S = .ok (.int r, false) S' ∧ 0 ≤ r ∧ r < u ∧ Ps c L (M + 1) S'
theorem takes_of_form {A B C E G : Int} (tc : TakeC A B C E G) {ca ca' : Ca} (h : ∀ ds S, ca' ("_law_take", none) ds S = runF ⟨2, 5, takeForm A B C E G⟩ ca ds S) : TakesP ca' := fun c L M u S p hM h0 h1 => by
  obtain ⟨a, b, n, q1, q2⟩ := p.pot
  obtain ⟨r, a', n', e, r0, r1, hn', p'⟩ := take_spec tc (ca := ca) (u := u) q1 (by omega) h0 h1
  refine ⟨r, _, by rw [h]; exact e, r0, r1, ⟨⟨a', b, n', p', by omega⟩, (shp_set q1.1).trans p.shp, fun o ho => ?_⟩⟩
  rcases List.mem_or_eq_of_mem_set ho with ho | rfl
  · exact p.itc o ho
  · rfl
theorem erase_map {α β : Type} (f : α → β) : ∀ (xs : List α) (i : Nat), (xs.map f).eraseIdx i = (xs.eraseIdx i).map f
  | [], i => by simp
  | x :: xs, 0 => by simp
  | x :: xs, i + 1 => by simp [erase_map f xs i]
theorem erase_perm {α : Type} : ∀ {xs : List α} {i : Nat} (h : i < xs.length), (xs[i] :: xs.eraseIdx i).Perm xs
  | [], i, h => by simp at h
  | x :: xs, 0, h => by simp
  | x :: xs, i + 1, h => by
    have h' : i < xs.length := by simpa using h
    have ih := erase_perm h'
    simp only [List.getElem_cons_succ, List.eraseIdx_cons_succ]
    exact (List.Perm.swap x xs[i] (xs.eraseIdx i)).trans (ih.cons x)
/-! so many of a pool -/
def someForm (pg : Pg) : SS := sSeq (sPar [3, 4] [([1], cOpn bList (aOf [cVar 1])), ([], cOpn gLstN (aOf []))])
  (sSeq (sFor [2] (EV.iRng1 (cVar 2)) (.nm 5) (sAppPop 4 3 [0, 3] (cCall ("_law_take", none) [] (aOf [cVar 0, cLen pg (cVar 3)]))))
  (sRet [4] (cVar 4)))
def smEnv {α : Type} (enc : α → D) (c : Nat) (pool : D) (am : Int) (rest fs : List α) (x : Option B) : SEn := [some (.cel c, false), some (pool, false), some (.int am, false), some (.lst (rest.map enc), true), some (.lst (fs.map enc), true), x]
theorem rngD_map (n : Nat) : rangeD 0 n = (List.range n).map fun i : Nat => D.int (i : Nat) := by
  unfold rangeD
  apply List.map_congr_left
  intro i _
  simp
def smB (pg : Pg) : SS := sAppPop 4 3 [0, 3] (cCall ("_law_take", none) [] (aOf [cVar 0, cLen pg (cVar 3)]))
theorem some_turn {α : Type} {enc : α → D} {pg : Pg} {ca : Ca} (tk : TakesP ca) {c : Nat} {L : Shp} {M : Int} {S : Cells} (p : Ps c L M S) (hM : M < 2 ^ 40) {pool : D} {am : Int} {rest fs : List α} {x : D} (hr : 0 < rest.length) (hz : rest.length < 1000) (hz2 : fs.length < 1000) :
    ∃ (y : α) (rest' : List α) (S' : Cells), smB pg ca (smEnv enc c pool am rest fs (some (x, false))) S = .ok (.nx (smEnv enc c pool am rest' (fs ++ [y]) (some (x, false)))) S' ∧ (y :: rest').Perm rest ∧ Ps c L (M + 1) S' := by
  obtain ⟨r, S2, t1, t2, t3, t4⟩ := tk c L M (rest.length : Int) S p hM (by omega) (by omega)
  have hlt : r.toNat < rest.length := by omega
  have hf : cCall ("_law_take", none) [] (aOf [cVar 0, cLen pg (cVar 3)]) ca (viewF [0, 3] 0 (smEnv enc c pool am rest fs (some (x, false)))) S = .ok (.int r, false) S2 := by
    have v : viewF [0, 3] 0 (smEnv enc c pool am rest fs (some (x, false))) = [some (.cel c), some pool, some (.int am), some (.lst (rest.map enc)), none, some x] := rfl
    rw [v]
    simp only [cCall, aOf_cons, aOf_nil, cVar, cLen, R.bind_ok, List.getElem?_cons_succ, List.getElem?_cons_zero, mtOk, bLen, lenD, Option.bind_some, bI, lift, List.length_map, List.append_nil, t1]
  have hix : ixN (rest.map enc).length r = some r.toNat := by
    unfold ixN
    rw [if_pos t2, if_pos (by simp; omega)]
  have hd : (rest.map enc)[r.toNat]? = some (enc rest[r.toNat]) := by simp [hlt]
  have hpop : popI r = true := by
    unfold popI
    simp only [Bool.and_eq_true, decide_eq_true_eq]
    omega
  have ap := sAppPop_own (ka := 4) (kb := 3) (ms := [0, 3]) (ca := ca) (ρ := smEnv enc c pool am rest fs (some (x, false))) (as := fs.map enc) (bs := rest.map enc) rfl rfl hf hix hd (by simp; omega) hpop (by decide)
  refine ⟨rest[r.toNat], rest.eraseIdx r.toNat, S2, ?_, erase_perm hlt, t4⟩
  unfold smB
  rw [ap]
  simp [smEnv, erase_map]
theorem iRng1_ok {f : SE} {ca : Ca} {ρ : En} {S S' : Cells} {j : Int} {o : Bool} (h : f ca ρ S = .ok (.int j, o) S') (h1 : rngOk j = true) (h2 : j.toNat ≤ 16777216) : EV.iRng1 f ca ρ S = .ok (rangeD 0 j.toNat) S' := by
  have hc : (rngOk j && decide (j.toNat ≤ 16777216)) = true := by
    rw [h1, decide_eq_true h2]
    rfl
  unfold EV.iRng1
  rw [h, R.bind_ok]
  simp only [hc, if_true]
theorem some_rng {ca : Ca} {ρ : En} {S : Cells} {am : Nat} (h : am < 1000) (hv : ρ[2]? = some (some (.int am))) : EV.iRng1 (cVar 2) ca ρ S = .ok ((List.range am).map fun i : Nat => D.int (i : Nat)) S := by
  have hrg : rngOk (am : Int) = true := by
    unfold rngOk
    simp only [Bool.and_eq_true, decide_eq_true_eq]
    omega
  have hv' : cVar 2 ca ρ S = .ok (.int am, false) S := by
    unfold cVar
    rw [hv]
  rw [iRng1_ok hv' hrg (by omega), rngD_map, Int.toNat_natCast]
theorem some_loop {α : Type} {enc : α → D} {pg : Pg} {ca : Ca} (tk : TakesP ca) {c : Nat} {L : Shp} {M : Int} {S : Cells} (p : Ps c L M S) (hM : M < 2 ^ 39) (xs : List α) (hx : xs.length < 1000) (am : Nat) (ham : am ≤ xs.length) (pool : D) :
    ∃ (ys zs : List α) (x : Option B) (S' : Cells), forL (.nm 5) (smB pg ca) ((List.range am).map fun i : Nat => D.int (i : Nat)) (smEnv enc c pool am xs [] none) S = .ok (.nx (smEnv enc c pool am zs ys x)) S' ∧ (ys ++ zs).Perm xs ∧ ys.length = am ∧ Ps c L (M + am) S' := by
  obtain ⟨ρ', S', q1, rest, fs, x, q2, q3, q4, q5⟩ := forL_all (p := .nm 5) (body := smB pg ca) (fun i : Nat => D.int (i : Nat))
    (fun pre ρ S' => ∃ rest fs x, ρ = smEnv enc c pool am rest fs x ∧ (fs ++ rest).Perm xs ∧ fs.length = pre.length ∧ Ps c L (M + pre.length) S') (List.range am) (ρ := smEnv enc c pool am xs [] none) (S := S) ⟨xs, [], none, rfl, by simp, rfl, by simpa using p⟩ (fun pre x post ρ S' ep ⟨rest, fs, y, e, hpm, hl, hP⟩ => by
      subst e
      have hpre : pre.length < am := by
        have := congrArg List.length ep
        simp at this
        omega
      have hlen : fs.length + rest.length = xs.length := by
        have := hpm.length_eq
        simpa using this
      obtain ⟨z, rest', S2, t1, t2, t3⟩ := some_turn (pg := pg) (pool := pool) (am := (am : Int)) (x := D.int (x : Nat)) (enc := enc) tk hP (by omega) (rest := rest) (fs := fs) (by omega) (by omega) (by omega)
      refine ⟨smEnv enc c pool am rest fs (some (.int (x : Nat), false)), _, S2, rfl, t1, rest', fs ++ [z], some (.int (x : Nat), false), rfl, ?_, by simp [hl], ?_⟩
      · have : (fs ++ [z] ++ rest').Perm (fs ++ rest) := by
          rw [List.append_assoc]
          exact List.Perm.append_left fs t2
        exact this.trans hpm
      · have : M + ((pre ++ [x]).length : Int) = M + pre.length + 1 := by simp; omega
        rw [this]
        exact t3)
  subst q2
  rw [List.length_range] at q4 q5
  exact ⟨fs, rest, x, S', q1, q3, q4, q5⟩
theorem some_par {α : Type} {enc : α → D} {ca : Ca} {c : Nat} {S : Cells} (xs : List α) (am : Int) (pool : D) (hp : pool = .lst (xs.map enc) ∨ pool = .tup (xs.map enc)) : sPar [3, 4] [([1], cOpn bList (aOf [cVar 1])), ([], cOpn gLstN (aOf []))] ca (initE 6 [.cel c, pool, .int am]) S = .ok (.nx (smEnv enc c pool am xs [] none)) S := by
  rcases hp with rfl | rfl <;> rfl
theorem some_spec {α : Type} {enc : α → D} {pg : Pg} {ca : Ca} (tk : TakesP ca) {c : Nat} {L : Shp} {M : Int} {S : Cells} (p : Ps c L M S) (hM : M < 2 ^ 39) (xs : List α) (hx : xs.length < 1000) (am : Nat) (ham : am ≤ xs.length) (pool : D) (hp : pool = .lst (xs.map enc) ∨ pool = .tup (xs.map enc)) :
    ∃ (ys zs : List α) (S' : Cells), runF ⟨3, 6, someForm pg⟩ ca [.cel c, pool, .int am] S = .ok (.lst (ys.map enc), false) S' ∧ (ys ++ zs).Perm xs ∧ ys.length = am ∧ Ps c L (M + am) S' := by
  obtain ⟨fs, rest, x, S', q1, q3, q4, q5⟩ := some_loop (enc := enc) (pg := pg) tk p hM xs hx am ham pool
  refine ⟨fs, rest, S', ?_, q3, q4, q5⟩
  have e1 : sFor [2] (EV.iRng1 (cVar 2)) (.nm 5) (smB pg) ca (smEnv enc c pool am xs [] none) S = .ok (.nx (smEnv enc c pool am rest fs x)) S' := by
    unfold sFor
    have v : exI [2] (EV.iRng1 (cVar 2)) ca (smEnv enc c pool am xs [] none) S = .ok ((List.range am).map (fun i : Nat => D.int (i : Nat)), smEnv enc c pool am xs [] none) S := by
      rw [exI_eq, some_rng (am := am) (by omega) rfl, R.bind_ok]
      rfl
    rw [v, R.bind_ok]
    exact q1
  have e2 : sRet [4] (cVar 4) ca (smEnv enc c pool am rest fs x) S' = .ok (.rt (.lst (fs.map enc), false)) S' := by
    rw [sRet_eq]
    rfl
  have ff : someForm pg = sSeq (sPar [3, 4] [([1], cOpn bList (aOf [cVar 1])), ([], cOpn gLstN (aOf []))]) (sSeq (sFor [2] (EV.iRng1 (cVar 2)) (.nm 5) (smB pg)) (sRet [4] (cVar 4))) := rfl
  unfold runF
  rw [if_pos (show ([D.cel c, pool, .int am] : List D).length = 3 from rfl)]
  dsimp only
  rw [ff, sSeq_nx (some_par xs am pool hp), sSeq_nx e1, e2]
  rfl
end EV
namespace EV
open PySem PySem.Spec PyProof.Rows L2
/-! an object is made -/
theorem dropOk_new {S : Cells} {c : Str} (h : ∀ o, o ∈ S → isIntC o = true) : dropOk S.length c (S ++ [.ob c [] []]) = true := by
  have e1 : (S ++ [Cel.ob c [] []])[S.length]? = some (.ob c [] []) := by simp
  have e2 : (S ++ [Cel.ob c [] []]).take S.length = S := by simp
  have e3 : S.all (cfrC S.length) = true := List.all_eq_true.mpr fun o ho => intC_cfr (h o ho)
  unfold dropOk
  rw [e1, e2, e3]
  simp [isNew]
theorem runI_ok {c : Str} {flds : List Str} {n N : Nat} {pres : List SS} {es : List SE} {ca : Ca} {ds vs : List D} {S : Cells} {ρ : SEn} (hl : ds.length = n) (h1 : seqL pres ca (initE N (.cel S.length :: ds)) (S ++ [.ob c [] []]) = .ok (.nx ρ) (S ++ [.ob c [] []])) (hi : ∀ o, o ∈ S → isIntC o = true) (hs : selfAt S.length ρ = true)
    (h2 : aOf es ca (viewI S.length ρ) S = .ok vs S) (hv : vs.length = flds.length) : runI c flds n N pres es ca ds S = .ok (.ins c flds vs, false) S := by
  have e2 : (S ++ [Cel.ob c [] []]).take S.length = S := by simp
  unfold runI
  rw [if_pos hl, h1]
  simp only [dropOk_new hi, hs, Bool.and_self, if_true, e2, h2, R.bind_ok, hv]
theorem cfrL_str {n : Nat} : ∀ xs : List Str, cfrL n (xs.map D.str) = true
  | [] => rfl
  | x :: xs => by simp [cfrL, cfr, cfrL_str xs]
end EV

namespace EV
open PySem PySem.Spec PyProof.Rows L2
/-! ifs -/
theorem sIf_no {ms : List Nat} {t : ST} {a : SS} {ca : Ca} {ρ : SEn} {S S' : Cells} (h : t ca (viewF ms 0 ρ) S = .ok false S') : sIf ms t a sPass ca ρ S = .ok (.nx ρ) S' := by
  unfold sIf
  rw [exT_eq, h]
  rfl
theorem sIf_yes {ms : List Nat} {t : ST} {a b : SS} {ca : Ca} {ρ : SEn} {S S' : Cells} (h : t ca (viewF ms 0 ρ) S = .ok true S') : sIf ms t a b ca ρ S = a ca ρ S' := by
  unfold sIf
  rw [exT_eq, h]
  rfl
theorem parE_cons {n : Nat} {ca : Ca} {ms : List Nat} {f : SE} {fs : List (List Nat × SE)} {ρ : SEn} {S S' : Cells} {b : B} (h : f ca (viewF ms 0 (ρ.take n)) S = .ok b S') (hg : (ms.any (ownAt ρ) && !immB b) = false) : parE n ca ((ms, f) :: fs) ρ S = parE n ca fs (ρ ++ [some b]) S' := by
  show (ex1G ms f ca (view ms (ρ.take n)) ρ S).bind _ = _
  unfold ex1G after
  rw [view_eqF, h]
  simp only [R.bind_ok, hg, Bool.false_eq_true, if_false]
/-! what can be shown -/
structure Sw (k n : Nat) (d : D) : Prop where
  r : rpl d = true
  s : (toR d).showable = true
  dp : (toR d).depth ≤ k
  l : (toR d).shown.length ≤ n
  c : cpOk (toR d).shown = true
theorem cpOk_join : ∀ {ts : List Str}, (∀ t, t ∈ ts → cpOk t = true) → cpOk (Str.join ", " ts) = true
  | [], _ => by decide +kernel
  | [x], h => h x (by simp)
  | x :: y :: r, h => by
    have ih := cpOk_join (ts := y :: r) fun t ht => h t (List.mem_cons_of_mem _ ht)
    show cpOk (x ++ ", " ++ Str.join ", " (y :: r)) = true
    exact cpOk_append (cpOk_append (h x (by simp)) (by decide +kernel)) ih
theorem cpOk_tupleText {ts : List Str} (h : ∀ t, t ∈ ts → cpOk t = true) : cpOk (tupleText ts) = true := by
  unfold tupleText
  refine cpOk_append (cpOk_append (by decide +kernel) (cpOk_join h)) ?_
  split <;> decide +kernel
theorem toRL_eq : ∀ ds : List D, toRL ds = ds.map toR
  | [] => by simp [toRL]
  | d :: ds => by simp [toRL, toRL_eq ds]
theorem shownAll_eq : ∀ ds : List PyData, PyData.shownAll ds = ds.map PyData.shown
  | [] => by simp [PyData.shownAll]
  | d :: ds => by simp [PyData.shownAll, shownAll_eq ds]
theorem showableAll_of : ∀ {ds : List PyData}, (∀ d, d ∈ ds → d.showable = true) → PyData.showableAll ds = true
  | [], _ => by simp [PyData.showableAll]
  | d :: ds, h => by simp [PyData.showableAll, h d (by simp), showableAll_of fun e he => h e (List.mem_cons_of_mem _ he)]
theorem rplL_of : ∀ {ds : List D}, (∀ d, d ∈ ds → rpl d = true) → rplL ds = true
  | [], _ => by simp [rplL]
  | d :: ds, h => by simp [rplL, h d (by simp), rplL_of fun e he => h e (List.mem_cons_of_mem _ he)]
theorem sum_le {n : Nat} : ∀ {ts : List Nat}, (∀ t, t ∈ ts → t ≤ n) → ts.sum ≤ ts.length * n
  | [], _ => by simp
  | t :: ts, h => by
    have := sum_le (ts := ts) fun x hx => h x (List.mem_cons_of_mem _ hx)
    have := h t (by simp)
    simp only [List.sum_cons, List.length_cons, Nat.add_mul]
    omega
theorem Sw.tup {k n : Nat} {ds : List D} (h : ∀ d, d ∈ ds → Sw k n d) : Sw (k + 1) (ds.length * n + 2 * ds.length + 3) (.tup ds) := by
  have e : toR (.tup ds) = .tuple (ds.map toR) := by simp only [toR, toRL_eq]
  have es : (toR (.tup ds)).shown = tupleText (ds.map fun d => (toR d).shown) := by
    rw [e]
    simp only [PyData.shown, shownAll_eq, List.map_map, Function.comp_def]
  refine ⟨by simp only [rpl]; exact rplL_of fun d hd => (h d hd).r, ?_, ?_, ?_, ?_⟩
  · rw [e]
    simp only [PyData.showable]
    exact showableAll_of fun x hx => by
      obtain ⟨d, hd, rfl⟩ := List.mem_map.mp hx
      exact (h d hd).s
  · rw [e]
    simp only [PyData.depth]
    have := depthAll_map (f := toR) (n := k) (xs := ds) fun d hd => (h d hd).dp
    omega
  · rw [es]
    refine Nat.le_trans (tupleText_len_le _) ?_
    have := sum_le (n := n) (ts := (ds.map fun d => (toR d).shown).map (·.length)) fun t ht => by
      rw [List.map_map] at ht
      obtain ⟨d, hd, rfl⟩ := List.mem_map.mp ht
      exact (h d hd).l
    simp only [List.length_map] at this ⊢
    omega
  · rw [es]
    exact cpOk_tupleText fun t ht => by
      obtain ⟨d, hd, rfl⟩ := List.mem_map.mp ht
      exact (h d hd).c
theorem Sw.mono {k n k' n' : Nat} {d : D} (h : Sw k n d) (hk : k ≤ k') (hn : n ≤ n') : Sw k' n' d := ⟨h.r, h.s, Nat.le_trans h.dp hk, Nat.le_trans h.l hn, h.c⟩
theorem Sw.gRepr {k n : Nat} {d : D} (h : Sw k n d) (hk : k ≤ 100) (hn : n ≤ 16000000) (S : Cells) : gRepr S d = some (.str (toR d).shown, false) := by
  have e : shwOk d = true := by
    have h1 := Nat.le_trans h.dp hk
    have h2 : (toR d).shown.length ≤ 16777216 := by have := h.l; omega
    unfold shwOk
    rw [h.r, h.s, decide_eq_true h1, decide_eq_true h2, h.c]
    rfl
  unfold EV.gRepr
  rw [e]
  rfl
theorem Sw.strB {x : Str} {n : Nat} (h1 : (reprText x).length ≤ n) (h2 : cpOk (reprText x) = true) : Sw 0 n (.str x) := ⟨rfl, by simp [toR, PyData.showable], by simp [toR, PyData.depth], by simpa [toR, PyData.shown] using h1, by simpa [toR, PyData.shown] using h2⟩
def smallI : Bool := (List.range 200).all fun i => decide ((toString (i : Int) : Str).length ≤ 10) && cpOk (toString (i : Int) : Str) && (PyData.int i).showable
theorem smallI_ok : smallI = true := by decide +kernel
theorem Sw.int {i : Nat} (h : i < 200) : Sw 0 10 (.int (i : Nat)) := by
  have := List.all_eq_true.mp smallI_ok i (List.mem_range.mpr h)
  simp only [Bool.and_eq_true, decide_eq_true_eq] at this
  exact ⟨rfl, this.2, by simp [toR, PyData.depth], this.1.1, this.1.2⟩
/-- two values alike are shown alike -/
theorem dNe_repr {k n : Nat} {d : D} (h : Sw k n d) (hk : k ≤ 100) (hn : n ≤ 16000000) (S : Cells) {f g : SE} {ca : Ca} {ρ : En} {S1 S2 : Cells} {o o' : Bool} (hf : f ca ρ S = .ok (d, o) S1) (hg : g ca ρ S1 = .ok (d, o') S2) :
    tBl (cOp2 dNe (cOp1 EV.gRepr f) (cOp1 EV.gRepr g)) ca ρ S = .ok false S2 := by
  have e := fS.dNe (by decide) S2 (toR d).shown (toR d).shown
  simp only [tBl, cOp2, cOp1, hf, hg, R.bind_ok, h.gRepr hk hn, lift, e]
  simp [tru]
end EV

namespace EV
open PySem PySem.Spec PyProof.Rows L2
/-! the law over its cells -/
def tLaps (lap : Int) : ST := tNotT (tVal (cOpn bAll (aOf [cComp (EV.iRng1 (cCon (.int lap))) [3] (.nm 3) tYesT (cCall ("_law_right", none) [] (aOf [cVar 2]))])))
def lawBody (lap : Int) : SS := sSeq (sSetC 2 [0, 1] (cCall ("_law_pot", none) [] (aOf [cVar 0, cVar 1]))) (sIf [2] (tLaps lap) (sRet [] (cCon (.bl false))) sPass)
def lawForm (lim lap : Int) : SS := sSeq (sFor [0] (EV.iVal (cCall ("_law_cells", none) [] (aOf [cVar 0, cCon (.int lim)]))) (.nm 1) (lawBody lap)) (sRet [] (cCon (.bl true)))
def lwE (ns : List Int) (x y : Option B) : SEn := [some (.scr ns, false), x, y, none]
/-- the shape has the tables of T -/
def HasT (T : List Str) (L : Shp) : Prop := ∀ n, n ∈ T → some (n, lamQ n) ∈ L
def RightP (T : List Str) (ca : Ca) (cost : Int) : Prop := ∀ (c : Nat) (L : Shp) (M : Int) (S : Cells), Ps c L M S → HasT T L → M < 2 ^ 34 → ∃ S', ca ("_law_right", none) [.cel c] S = .ok (.bl true, false) S' ∧ Ps c L (M + cost) S'
def PotP (ca : Ca) : Prop := ∀ (ns : List Int) (i : Nat) (S : Cells), i < 1000 → ∃ a b, ca ("_law_pot", none) [.scr ns, .int (i : Nat)] S = .ok (.lst [.int a, .int b, .int 0], true) S ∧ 0 ≤ a ∧ 0 ≤ b ∧ b < 2 ^ 62
def CellsP (ca : Ca) (lim : Int) : Prop := ∀ (ns : List Int) (S : Cells), ns.length ≤ 63 → ∃ m : Nat, ca ("_law_cells", none) [.scr ns, .int lim] S = .ok (.lst (rangeD 0 m), true) S ∧ m < 1000
theorem pot_of_form {pg : Pg} {P Q A B C : Int} {ca ca' : Ca} (hP : 0 ≤ P ∧ P < 2 ^ 20) (hA : 0 ≤ A ∧ A < 2 ^ 20) (h : ∀ ds S, ca' ("_law_pot", none) ds S = runF ⟨2, 5, potForm pg P Q A B C⟩ ca ds S) : PotP ca' := fun ns i S hi => by
  obtain ⟨a, b, e, a0, b0, b1⟩ := pot_spec (pg := pg) (P := P) (Q := Q) (A := A) (B := B) (C := C) (pl := (i : Int)) (ca := ca) (S := S) (ns := ns) hP hA (by omega) (by omega)
  exact ⟨a, b, by rw [h]; exact e, a0, b0, b1⟩
theorem cells_of_form {pg : Pg} {lim : Int} {ca ca' : Ca} (hl : lim < 900) (h : ∀ ds S, ca' ("_law_cells", none) ds S = runF ⟨2, 2, cellsForm pg⟩ ca ds S) : CellsP ca' lim := fun ns S hn => by
  obtain ⟨m, e, m1, m2⟩ := cells_spec (pg := pg) (ca := ca) (S := S) (ns := ns) (lim := lim) (by omega) hn
  exact ⟨m, by rw [h]; exact e, by omega⟩
theorem not_all {f : SE} {ca : Ca} {ρ : En} {S S' : Cells} {ds : List D} {o : Bool} (h : f ca ρ S = .ok (.lst ds, o) S') (ha : bAll S' [.lst ds] = some (.bl true, false)) : tNotT (tVal (cOpn bAll (aOf [f]))) ca ρ S = .ok false S' := by
  simp only [tNotT, tVal, cOpn, aOf_cons, aOf_nil, h, R.bind_ok, ha, lift, tru]
  rfl
theorem all_of {f : SE} {ca : Ca} {ρ : En} {S S' : Cells} {ds : List D} {o : Bool} (h : f ca ρ S = .ok (.lst ds, o) S') (ha : bAll S' [.lst ds] = some (.bl true, false)) : cOpn bAll (aOf [f]) ca ρ S = .ok (.bl true, false) S' := by
  simp only [cOpn, aOf_cons, aOf_nil, h, R.bind_ok, ha, lift]
theorem laps_s {T : List Str} {ca : Ca} {cost : Int} (hc0 : 0 ≤ cost) (hc : cost < 2 ^ 20) (rt : RightP T ca cost) {lap : Nat} (hlap : lap ≤ 100) {c : Nat} {L : Shp} {S : Cells} (p : Ps c L 0 S) (ht : HasT T L) (d0 d1 : D) : ∃ S' M, tLaps lap ca [some d0, some d1, some (.cel c), none] S = .ok false S' ∧ Ps c L M S' := by
  have hrg : rngOk (lap : Int) = true := by
    unfold rngOk
    simp only [Bool.and_eq_true, decide_eq_true_eq]
    omega
  have hr : EV.iRng1 (cCon (.int lap)) ca [some d0, some d1, some (.cel c), none] S = .ok ((List.range lap).map fun i : Nat => D.int (i : Nat)) S := by
    rw [iRng1_ok (j := (lap : Int)) (o := false) rfl hrg (by omega), rngD_map, Int.toNat_natCast]
  obtain ⟨S', q1, q2⟩ := comp_st (it := EV.iRng1 (cCon (.int lap))) (vs := [3]) (pt := .nm 3) (e := cCall ("_law_right", none) [] (aOf [cVar 2])) (ca := ca) (ρ := [some d0, some d1, some (.cel c), none]) (fun i : Nat => D.int (i : Nat)) (List.range lap) (fun _ => D.bl true) (fun k S => Ps c L (cost * k) S) hr (by simpa using p) (fun k x S hk hx hP => by
    have hk' : k < 100 := by simp at hk; omega
    have hb : cost * (k : Int) ≤ 2 ^ 20 * 100 := Int.mul_le_mul (by omega) (by omega) (by omega) (by omega)
    obtain ⟨S', e1, e2⟩ := rt c L (cost * k) S hP ht (by omega)
    refine ⟨_, false, S', rfl, ?_, ?_⟩
    · simp only [cCall, aOf_cons, aOf_nil, cVar, wipeE, List.set_cons_succ, List.set_cons_zero, List.getElem?_cons_succ, List.getElem?_cons_zero, R.bind_ok, List.append_nil, e1]
    · have : cost * ((k + 1 : Nat) : Int) = cost * k + cost := by rw [Int.natCast_add, Int.mul_add]; simp
      rw [this]
      exact e2)
  refine ⟨S', _, ?_, q2⟩
  unfold tLaps
  have ha : bAll S' [.lst ((List.range lap).map fun _ => D.bl true)] = some (.bl true, false) := by
    rw [bAll_map S' (fun _ => true) (List.range lap)]
    simp
  exact not_all q1 ha
theorem lawBody_s {T : List Str} {ca : Ca} {cost : Int} (hc0 : 0 ≤ cost) (hc : cost < 2 ^ 20) (rt : RightP T ca cost) (pt : PotP ca) {lap : Nat} (hlap : lap ≤ 100) {ns : List Int} {i : Nat} (hi : i < 1000) {S : Cells} (hS : ∀ o, o ∈ S → isIntC o = true) (hT : HasT T (S.map shpC)) (y : Option B) (hy : ∀ b, y = some b → b.2 = false) :
    ∃ S' z, lawBody lap ca (lwE ns (some (.int (i : Nat), false)) y) S = .ok (.nx (lwE ns (some (.int (i : Nat), false)) z)) S' ∧ (∀ o, o ∈ S' → isIntC o = true) ∧ HasT T (S'.map shpC) ∧ (∀ b, z = some b → b.2 = false) := by
  obtain ⟨a, b, e, a0, b0, b1⟩ := pt ns i S hi
  have p : Ps S.length ((S ++ [Cel.ls [.int a, .int b, .int 0]]).map shpC) 0 (S ++ [.ls [.int a, .int b, .int 0]]) := ⟨⟨a, b, 0, ⟨by rw [List.getElem?_append_right (Nat.le_refl _)]; simp, a0, b0, b1, by decide⟩, by decide⟩, rfl, fun o ho => by
    rcases List.mem_append.mp ho with ho | ho
    · exact hS o ho
    · simp at ho
      subst ho
      rfl⟩
  obtain ⟨S', M, e2, q⟩ := laps_s hc0 hc rt hlap p (fun n hn => by rw [List.map_append]; exact List.mem_append_left _ (hT n hn)) (.scr ns) (.int (i : Nat))
  refine ⟨S', some (.cel S.length, false), ?_, q.itc, fun n hn => by rw [q.shp, List.map_append]; exact List.mem_append_left _ (hT n hn), fun b hb => by cases hb; rfl⟩
  have e3 : sSetC 2 [0, 1] (cCall ("_law_pot", none) [] (aOf [cVar 0, cVar 1])) ca (lwE ns (some (.int (i : Nat), false)) y) S = .ok (.nx (lwE ns (some (.int (i : Nat), false)) (some (.cel S.length, false)))) (S ++ [.ls [.int a, .int b, .int 0]]) := by
    have hv : ∃ y', viewF [0, 1] 0 (lwE ns (some (.int (i : Nat), false)) y) = [some (.scr ns), some (.int (i : Nat)), y', none] := ⟨viewB false y, rfl⟩
    obtain ⟨y', hv⟩ := hv
    have f1 : cCall ("_law_pot", none) [] (aOf [cVar 0, cVar 1]) ca [some (.scr ns), some (.int (i : Nat)), y', none] S = .ok (.lst [.int a, .int b, .int 0], true) S := by
      simp only [cCall, aOf_cons, aOf_nil, cVar, List.getElem?_cons_succ, List.getElem?_cons_zero, R.bind_ok, List.append_nil, e]
    unfold sSetC
    rw [ex1_eq, hv, f1]
    rfl
  unfold lawBody
  rw [sSeq_nx e3]
  have hv : viewF [2] 0 (lwE ns (some (.int (i : Nat), false)) (some (.cel S.length, false))) = [some (.scr ns), some (.int (i : Nat)), some (.cel S.length), none] := rfl
  exact sIf_no (by rw [hv]; exact e2)
theorem law_spec {T : List Str} {ca : Ca} {cost : Int} (hc0 : 0 ≤ cost) (hc : cost < 2 ^ 20) (rt : RightP T ca cost) (pt : PotP ca) {lap : Nat} (hlap : lap ≤ 100) {lim : Int} (cl : CellsP ca lim) (ns : List Int) (hn : ns.length ≤ 63) : ∃ S, runF ⟨1, 4, lawForm lim lap⟩ ca [.scr ns] (tbS T) = .ok (.bl true, false) S := by
  obtain ⟨m, e, m1⟩ := cl ns (tbS T) hn
  obtain ⟨ρ', S', q1, x, y, q2, q3, q4, q5⟩ := forL_all (p := .nm 1) (body := lawBody lap ca) (fun i : Nat => D.int (i : Nat)) (fun pre ρ S' => ∃ x y, ρ = lwE ns x y ∧ (∀ o, o ∈ S' → isIntC o = true) ∧ HasT T (S'.map shpC) ∧ (∀ b, y = some b → b.2 = false)) (List.range m) (ρ := lwE ns none none) (S := tbS T) ⟨none, none, rfl, fun o ho => by
    obtain ⟨n, _, rfl⟩ := List.mem_map.mp ho
    rfl, fun n hn => List.mem_map.mpr ⟨_, List.mem_map_of_mem (f := fun n => Cel.tb n (lamQ n)) hn, rfl⟩, fun b hb => by cases hb⟩ (fun pre i post ρ S ep ⟨x, y, e1, e2, e2', e3⟩ => by
    subst e1
    have hi : i < m := List.mem_range.mp (by rw [ep]; simp)
    obtain ⟨S', z, f1, f2, f2', f3⟩ := lawBody_s hc0 hc rt pt hlap (ns := ns) (i := i) (by omega) e2 e2' y e3
    exact ⟨_, _, S', rfl, f1, _, z, rfl, f2, f2', f3⟩)
  subst q2
  refine ⟨S', ?_⟩
  have e1 : sFor [0] (EV.iVal (cCall ("_law_cells", none) [] (aOf [cVar 0, cCon (.int lim)]))) (.nm 1) (lawBody lap) ca (lwE ns none none) (tbS T) = .ok (.nx (lwE ns x y)) S' := by
    have v : viewF [0] 0 (lwE ns none none) = [some (.scr ns), none, none, none] := rfl
    have f1 : EV.iVal (cCall ("_law_cells", none) [] (aOf [cVar 0, cCon (.int lim)])) ca [some (.scr ns), none, none, none] (tbS T) = .ok ((List.range m).map fun i : Nat => D.int (i : Nat)) (tbS T) := by
      simp only [EV.iVal, cCall, aOf_cons, aOf_nil, cVar, cCon, List.getElem?_cons_succ, List.getElem?_cons_zero, R.bind_ok, List.append_nil, e, itemsD, rngD_map]
    unfold sFor
    rw [exI_eq, v, f1]
    exact q1
  unfold runF
  rw [if_pos (show ([D.scr ns] : List D).length = 1 from rfl)]
  dsimp only
  have i0 : initE 4 [.scr ns] = lwE ns none none := rfl
  unfold lawForm
  rw [i0, sSeq_nx e1]
  rfl
end EV

namespace EV
open PySem PySem.Spec PyProof.Rows L2
/-! ### values of any kind, and how they are shown -/
def ch (x : Str) : List Nat := x.cps.toList
theorem ch_app (x y : Str) : ch (x ++ y) = ch x ++ ch y := PySem.W.KT.app_list x y
theorem ch_inj {x y : Str} (h : ch x = ch y) : x = y := by
  obtain ⟨⟨a⟩⟩ := x
  obtain ⟨⟨b⟩⟩ := y
  have : a = b := h
  rw [this]
def iT (i : Int) : List Nat := ch (PySem.Str.ofString (toString i))
theorem iT_nat (m : Nat) : iT (m : Nat) = (Nat.toDigits 10 m).map Char.toNat := PySem.W.KIN.signs_num m
theorem iT_neg (m : Nat) : iT (Int.negSucc m) = 45 :: (Nat.toDigits 10 (m + 1)).map Char.toNat := by
  show ch (PySem.Str.ofString ("-" ++ Nat.repr (m + 1))) = _
  unfold ch
  rw [PySem.Str.ofString_eq_toList]
  show (("-" ++ Nat.repr (m + 1)).toList.map Char.toNat) = _
  rw [String.toList_append, List.map_append, Nat.toList_repr]
  rfl
theorem dig_ch {m c : Nat} (h : c ∈ (Nat.toDigits 10 m).map Char.toNat) : 48 ≤ c ∧ c ≤ 57 := by
  obtain ⟨x, hx, rfl⟩ := List.mem_map.mp h
  exact PyProof.Rows.digit_range (Nat.isDigit_of_mem_toDigits (by decide) (by decide) hx)
theorem dig_inj {m n : Nat} (h : (Nat.toDigits 10 m).map Char.toNat = (Nat.toDigits 10 n).map Char.toNat) : m = n := by
  have := congrArg PySem.NumText.digitsVal h
  rw [PySem.W.KIN.val_back, PySem.W.KIN.val_back] at this
  exact this
theorem dig_ne (m : Nat) : (Nat.toDigits 10 m).map Char.toNat ≠ [] := fun e => by
  have h := toDigits_len_ge 10 m
  rw [List.map_eq_nil_iff.mp e] at h
  exact absurd h (by decide)
def numC (c : Nat) : Bool := c == 45 || (decide (48 ≤ c) && decide (c ≤ 57))
theorem iT_ch {i : Int} {c : Nat} (h : c ∈ iT i) : numC c = true := by
  cases i with
  | ofNat m =>
    rw [show (Int.ofNat m) = ((m : Nat) : Int) from rfl, iT_nat] at h
    have := dig_ch h
    simp [numC, this]
  | negSucc m =>
    rw [iT_neg] at h
    rcases List.mem_cons.mp h with rfl | h
    · rfl
    · have := dig_ch h
      simp [numC, this]
theorem iT_inj {i j : Int} (h : iT i = iT j) : i = j := by
  cases i with
  | ofNat m =>
    cases j with
    | ofNat n =>
      have h' : iT ((m : Nat) : Int) = iT ((n : Nat) : Int) := h
      rw [iT_nat, iT_nat] at h'
      rw [dig_inj h']
    | negSucc n =>
      have h' : iT ((m : Nat) : Int) = iT (Int.negSucc n) := h
      rw [iT_nat, iT_neg] at h'
      have := dig_ch (m := m) (c := 45) (by rw [h']; simp)
      omega
  | negSucc m =>
    cases j with
    | ofNat n =>
      have h' : iT (Int.negSucc m) = iT ((n : Nat) : Int) := h
      rw [iT_nat, iT_neg] at h'
      have := dig_ch (m := n) (c := 45) (by rw [← h']; simp)
      omega
    | negSucc n =>
      rw [iT_neg, iT_neg] at h
      have := dig_inj (List.cons.inj h).2
      have : m = n := by omega
      rw [this]
theorem iT_ne (i : Int) : iT i ≠ [] := by
  cases i with
  | ofNat m =>
    rw [show (Int.ofNat m) = ((m : Nat) : Int) from rfl, iT_nat]
    exact dig_ne m
  | negSucc m => rw [iT_neg]; simp
/-- a plain sign: no quote, no backslash -/
def smpC (c : Nat) : Bool := decide (32 ≤ c) && decide (c ≤ 126) && c != 39 && c != 34 && c != 92
def smp (x : Str) : Bool := (ch x).all smpC
theorem rch_all : ((List.range 127).all fun c => !smpC c || decide (Builtin.Str.reprChar 39 c = [c])) = true := by decide +kernel
theorem rch_smp {c : Nat} (h : smpC c = true) : Builtin.Str.reprChar 39 c = [c] := by
  have hc : c < 127 := by
    simp only [smpC, Bool.and_eq_true, decide_eq_true_eq] at h
    omega
  have := List.all_eq_true.mp rch_all c (List.mem_range.mpr hc)
  simpa [h] using this
theorem smp_ne {x : Str} (h : smp x = true) {c : Nat} (hc : c ∈ ch x) : smpC c = true := List.all_eq_true.mp h c hc
theorem fold_smp : ∀ (l : List Nat) (acc : Array Nat), (∀ c, c ∈ l → smpC c = true) → (l.foldl (fun out c => out ++ (Builtin.Str.reprChar 39 c).toArray) acc).toList = acc.toList ++ l
  | [], acc, _ => by simp
  | c :: l, acc, h => by
    rw [List.foldl_cons, fold_smp l _ fun x hx => h x (List.mem_cons_of_mem _ hx), rch_smp (h c (List.mem_cons_self ..))]
    simp
theorem repr_smp {x : Str} (h : smp x = true) : ch (reprText x) = 39 :: (ch x ++ [39]) := by
  have q : reprQuote x = 39 := by
    unfold reprQuote
    have : x.cps.contains 39 = false := by
      cases e : x.cps.contains 39 with
      | false => rfl
      | true =>
        have hm : 39 ∈ ch x := by
          have := Array.contains_iff_mem.mp e
          exact Array.mem_toList_iff.mpr this
        have := smp_ne h hm
        cases this
    rw [this]
    rfl
  unfold reprText ch
  rw [q]
  show ((x.cps.foldl (fun out c => out ++ (Builtin.Str.reprChar 39 c).toArray) #[39]).push 39).toList = _
  rw [Array.toList_push, ← Array.foldl_toList, fold_smp x.cps.toList _ fun c hc => smp_ne h hc]
  simp
/-! the text of a value -/
def txD : List D → List D → List Nat
  | [.str x], [.int i] => 39 :: (ch x ++ [39, 58, 32] ++ iT i ++ [125])
  | _, _ => [125]
def niceD : List D → List D → Bool
  | [], [] => true
  | [.str x], [.int i] => smp x && decide (i.natAbs < 10 ^ 18)
  | _, _ => false
mutual
def tx : D → List Nat
  | .bl b => if b then [84, 114, 117, 101] else [70, 97, 108, 115, 101]
  | .int i => iT i
  | .str x => 39 :: (ch x ++ [39])
  | .tup ds => 40 :: (txs ds ++ (if ds.length = 1 then [44, 41] else [41]))
  | .lst ds => 91 :: (txs ds ++ [93])
  | .dic ks vs => 123 :: txD ks vs
  | _ => [78, 111, 110, 101]
def txs : List D → List Nat
  | [] => []
  | d :: ds => tx d ++ (match ds with
    | [] => []
    | _ :: _ => 44 :: 32 :: txs ds)
end
mutual
def nice : D → Bool
  | .non => true
  | .bl _ => true
  | .int i => decide (i.natAbs < 10 ^ 18)
  | .str x => smp x
  | .tup ds => niceL ds
  | .lst ds => niceL ds
  | .dic ks vs => niceD ks vs
  | _ => false
def niceL : List D → Bool
  | [] => true
  | d :: ds => nice d && niceL ds
end
def kindC (c : Nat) : Nat := if c = 78 then 0 else if c = 84 then 1 else if c = 70 then 2 else if numC c then 3 else if c = 39 then 4 else if c = 40 then 5 else if c = 91 then 6 else if c = 123 then 7 else 9
def kd : D → Nat
  | .bl true => 1
  | .bl false => 2
  | .int _ => 3
  | .str _ => 4
  | .tup _ => 5
  | .lst _ => 6
  | .dic _ _ => 7
  | _ => 0
theorem numC_kind {c : Nat} (h : numC c = true) : kindC c = 3 := by
  unfold kindC
  have h1 : c ≠ 78 := fun e => by subst e; cases h
  have h2 : c ≠ 84 := fun e => by subst e; cases h
  have h3 : c ≠ 70 := fun e => by subst e; cases h
  simp [h1, h2, h3, h]
theorem tx_head : ∀ d : D, nice d = true → ∃ c r, tx d = c :: r ∧ kindC c = kd d
  | .non, _ => ⟨_, _, by simp only [tx]; rfl, rfl⟩
  | .bl true, _ => ⟨_, _, by simp only [tx]; rfl, rfl⟩
  | .bl false, _ => ⟨_, _, by simp only [tx]; rfl, rfl⟩
  | .int i, _ => by
    simp only [tx]
    cases e : iT i with
    | nil => exact absurd e (iT_ne i)
    | cons c r => exact ⟨c, r, rfl, numC_kind (iT_ch (i := i) (by rw [e]; simp))⟩
  | .str x, _ => ⟨_, _, by simp only [tx]; rfl, rfl⟩
  | .tup ds, _ => ⟨_, _, by simp only [tx]; rfl, rfl⟩
  | .lst ds, _ => ⟨_, _, by simp only [tx]; rfl, rfl⟩
  | .dic ks vs, _ => ⟨_, _, by simp only [tx]; rfl, rfl⟩
  | .ins _ _ _, h => by simp [nice] at h
  | .exc _ _, h => by simp [nice] at h
  | .cel _, h => by simp [nice] at h
  | .scr _, h => by simp [nice] at h
/-- what may follow a value -/
def EndC (c : Nat) : Prop := c = 44 ∨ c = 41 ∨ c = 93 ∨ c = 125
def Ends (s : List Nat) : Prop := s = [] ∨ ∃ c r, s = c :: r ∧ EndC c
def EndsL (s : List Nat) : Prop := ∃ c r, s = c :: r ∧ (c = 41 ∨ c = 93 ∨ (c = 44 ∧ ∃ r', r = 41 :: r'))
theorem EndsL.ends {s : List Nat} (h : EndsL s) : Ends s := by
  obtain ⟨c, r, e, h⟩ := h
  refine .inr ⟨c, r, e, ?_⟩
  rcases h with h | h | ⟨h, _⟩
  · exact .inr (.inl h)
  · exact .inr (.inr (.inl h))
  · exact .inl h
theorem tw_all {p : Nat → Bool} {l s : List Nat} (h : ∀ c, c ∈ l → p c = true) (hs : ∀ c r, s = c :: r → p c = false) : (l ++ s).takeWhile p = l := by
  induction l with
  | nil =>
    cases s with
    | nil => rfl
    | cons c r => simp [hs c r rfl]
  | cons c l ih =>
    rw [List.cons_append, List.takeWhile_cons, if_pos (h c (List.mem_cons_self ..)), ih fun x hx => h x (List.mem_cons_of_mem _ hx)]
theorem end_num {s : List Nat} (h : Ends s) : ∀ c r, s = c :: r → numC c = false := fun c r e => by
  rcases h with h | ⟨c', r', e', h⟩
  · rw [h] at e; cases e
  · rw [e'] at e
    cases e
    rcases h with rfl | rfl | rfl | rfl <;> rfl
theorem int_pre {i j : Int} {s t : List Nat} (hs : Ends s) (ht : Ends t) (h : iT i ++ s = iT j ++ t) : i = j ∧ s = t := by
  have e := congrArg (List.takeWhile numC) h
  rw [tw_all (fun c hc => iT_ch hc) (end_num hs), tw_all (fun c hc => iT_ch hc) (end_num ht)] at e
  rw [e] at h
  exact ⟨iT_inj e, List.append_cancel_left h⟩
theorem str_pre {x y : Str} {s t : List Nat} (hx : smp x = true) (hy : smp y = true) (h : ch x ++ 39 :: s = ch y ++ 39 :: t) : x = y ∧ s = t := by
  have e := congrArg (List.takeWhile fun c => c != 39) h
  have f : ∀ {x : Str}, smp x = true → ∀ c, c ∈ ch x → (c != 39) = true := fun {x} h c hc => by
    have := smp_ne h hc
    simp only [smpC, Bool.and_eq_true] at this
    exact this.1.1.2
  rw [tw_all (f hx) (fun c r e => by cases e; rfl), tw_all (f hy) (fun c r e => by cases e; rfl)] at e
  rw [e] at h
  have := List.append_cancel_left h
  exact ⟨ch_inj e, (List.cons.inj this).2⟩
theorem kd_eq {d e : D} {s t : List Nat} (hd : nice d = true) (he : nice e = true) (h : tx d ++ s = tx e ++ t) : kd d = kd e := by
  obtain ⟨c, r, h1, h2⟩ := tx_head d hd
  obtain ⟨c', r', h3, h4⟩ := tx_head e he
  rw [h1, h3] at h
  have : c = c' := (List.cons.inj h).1
  rw [← h2, ← h4, this]
theorem kd_of {d : D} (hd : nice d = true) : (kd d = 0 → d = .non) ∧ (kd d = 1 → d = .bl true) ∧ (kd d = 2 → d = .bl false) ∧ (kd d = 3 → ∃ i, d = .int i) ∧ (kd d = 4 → ∃ x, d = .str x ∧ smp x = true) ∧ (kd d = 5 → ∃ ds, d = .tup ds ∧ niceL ds = true) ∧ (kd d = 6 → ∃ ds, d = .lst ds ∧ niceL ds = true) ∧ (kd d = 7 → d = .dic [] [] ∨ ∃ x i, d = .dic [.str x] [.int i] ∧ smp x = true) := by
  unfold nice at hd
  split at hd <;> first | (cases hd; done) | skip
  · simp [kd]
  · rename_i b; cases b <;> simp [kd]
  · simp [kd]
  · simp [kd]; exact hd
  · simp [kd]; exact hd
  · simp [kd]; exact hd
  · unfold niceD at hd
    split at hd
    · simp [kd]
    · simp only [Bool.and_eq_true] at hd
      simp [kd]; exact hd.1
    · cases hd
theorem txs_head {d : D} {ds : List D} (h : nice d = true) : ∃ c r, txs (d :: ds) = c :: r ∧ kindC c = kd d := by
  obtain ⟨c, r, h1, h2⟩ := tx_head d h
  refine ⟨c, r ++ (match ds with | [] => [] | _ :: _ => 44 :: 32 :: txs ds), ?_, h2⟩
  simp only [txs]
  rw [h1]
  rfl
theorem kd_le (d : D) : kd d ≠ 9 := by
  unfold kd
  split <;> decide
theorem endL_kind {s : List Nat} (h : EndsL s) : ∃ c r, s = c :: r ∧ kindC c = 9 := by
  obtain ⟨c, r, e, h⟩ := h
  refine ⟨c, r, e, ?_⟩
  rcases h with rfl | rfl | ⟨rfl, _⟩ <;> rfl
mutual
theorem tx_pre : ∀ (d e : D) (s t : List Nat), nice d = true → nice e = true → Ends s → Ends t → tx d ++ s = tx e ++ t → d = e ∧ s = t
  | .non, e, s, t, hd, he, hs, ht, h => by
    obtain rfl := (kd_of he).1 (kd_eq hd he h).symm
    exact ⟨rfl, List.append_cancel_left h⟩
  | .bl true, e, s, t, hd, he, hs, ht, h => by
    obtain rfl := (kd_of he).2.1 (kd_eq hd he h).symm
    exact ⟨rfl, List.append_cancel_left h⟩
  | .bl false, e, s, t, hd, he, hs, ht, h => by
    obtain rfl := (kd_of he).2.2.1 (kd_eq hd he h).symm
    exact ⟨rfl, List.append_cancel_left h⟩
  | .int i, e, s, t, hd, he, hs, ht, h => by
    obtain ⟨j, rfl⟩ := (kd_of he).2.2.2.1 (kd_eq hd he h).symm
    simp only [tx] at h
    obtain ⟨e1, e2⟩ := int_pre hs ht h
    exact ⟨by rw [e1], e2⟩
  | .str x, e, s, t, hd, he, hs, ht, h => by
    obtain ⟨y, rfl, hy⟩ := (kd_of he).2.2.2.2.1 (kd_eq hd he h).symm
    simp only [tx, List.cons_append, List.append_assoc, List.singleton_append, List.cons.injEq, true_and, List.nil_append] at h
    simp only [nice] at hd
    obtain ⟨e1, e2⟩ := str_pre hd hy h
    exact ⟨by rw [e1], e2⟩
  | .tup ds, e, s, t, hd, he, hs, ht, h => by
    obtain ⟨es, rfl, hes⟩ := (kd_of he).2.2.2.2.2.1 (kd_eq hd he h).symm
    simp only [tx, List.cons_append, List.append_assoc, List.cons.injEq, true_and] at h
    simp only [nice] at hd
    have el : ∀ (l : List D) (u : List Nat), EndsL ((if l.length = 1 then [44, 41] else [41]) ++ u) := fun l u => by
      split
      · exact ⟨44, _, rfl, .inr (.inr ⟨rfl, _, rfl⟩)⟩
      · exact ⟨41, _, rfl, .inl rfl⟩
    obtain ⟨e1, e2⟩ := txs_pre ds es _ _ hd hes (el ds s) (el es t) h
    subst e1
    exact ⟨rfl, List.append_cancel_left e2⟩
  | .lst ds, e, s, t, hd, he, hs, ht, h => by
    obtain ⟨es, rfl, hes⟩ := (kd_of he).2.2.2.2.2.2.1 (kd_eq hd he h).symm
    simp only [tx, List.cons_append, List.append_assoc, List.cons.injEq, true_and] at h
    simp only [nice] at hd
    obtain ⟨e1, e2⟩ := txs_pre ds es _ _ hd hes ⟨93, _, rfl, .inr (.inl rfl)⟩ ⟨93, _, rfl, .inr (.inl rfl)⟩ h
    subst e1
    exact ⟨rfl, (List.cons.inj e2).2⟩
  | .dic ks vs, e, s, t, hd, he, hs, ht, h => by
    have hk : kd e = 7 := (kd_eq hd he h).symm
    rcases (kd_of hd).2.2.2.2.2.2.2 rfl with e0 | ⟨x, i, e0, hx⟩
    · rw [e0] at h ⊢
      rcases (kd_of he).2.2.2.2.2.2.2 hk with rfl | ⟨y, j, rfl, hy⟩
      · exact ⟨rfl, List.append_cancel_left h⟩
      · simp [tx, txD] at h
    · rw [e0] at h ⊢
      rcases (kd_of he).2.2.2.2.2.2.2 hk with rfl | ⟨y, j, rfl, hy⟩
      · simp [tx, txD] at h
      · simp only [tx, txD, List.cons_append, List.append_assoc, List.cons.injEq, true_and, List.nil_append] at h
        obtain ⟨e1, e2⟩ := str_pre hx hy h
        simp only [List.cons.injEq, true_and] at e2
        obtain ⟨e3, e4⟩ := int_pre (s := 125 :: s) (t := 125 :: t) (.inr ⟨_, _, rfl, .inr (.inr (.inr rfl))⟩) (.inr ⟨_, _, rfl, .inr (.inr (.inr rfl))⟩) e2
        subst e1 e3
        exact ⟨rfl, (List.cons.inj e4).2⟩
  | .ins _ _ _, e, s, t, hd, he, hs, ht, h => by simp [nice] at hd
  | .exc _ _, e, s, t, hd, he, hs, ht, h => by simp [nice] at hd
  | .cel _, e, s, t, hd, he, hs, ht, h => by simp [nice] at hd
  | .scr _, e, s, t, hd, he, hs, ht, h => by simp [nice] at hd
theorem txs_pre : ∀ (ds es : List D) (s t : List Nat), niceL ds = true → niceL es = true → EndsL s → EndsL t → txs ds ++ s = txs es ++ t → ds = es ∧ s = t
  | [], es, s, t, hd, he, hs, ht, h => by
    cases es with
    | nil => exact ⟨rfl, h⟩
    | cons e es =>
      simp only [niceL, Bool.and_eq_true] at he
      obtain ⟨c, r, e1, e2⟩ := txs_head (ds := es) he.1
      obtain ⟨c', r', e3, e4⟩ := endL_kind hs
      rw [e1, e3] at h
      have : c' = c := (List.cons.inj h).1
      rw [this, e2] at e4
      exact absurd e4 (kd_le e)
  | d :: ds, es, s, t, hd, he, hs, ht, h => by
    simp only [niceL, Bool.and_eq_true] at hd
    cases es with
    | nil =>
      obtain ⟨c, r, e1, e2⟩ := txs_head (ds := ds) hd.1
      obtain ⟨c', r', e3, e4⟩ := endL_kind ht
      rw [e1, e3] at h
      have : c = c' := (List.cons.inj h).1
      rw [← this, e2] at e4
      exact absurd e4 (kd_le d)
    | cons e es =>
      simp only [niceL, Bool.and_eq_true] at he
      simp only [txs, List.append_assoc] at h
      have hE : ∀ (l : List D) (u : List Nat), EndsL u → Ends ((match l with | [] => [] | _ :: _ => 44 :: 32 :: txs l) ++ u) := fun l u hu => by
        cases l with
        | nil => exact hu.ends
        | cons a b => exact .inr ⟨44, _, rfl, .inl rfl⟩
      obtain ⟨e1, e2⟩ := tx_pre d e _ _ hd.1 he.1 (hE ds s hs) (hE es t ht) h
      subst e1
      cases ds with
      | nil =>
        cases es with
        | nil => exact ⟨rfl, e2⟩
        | cons a b =>
          exfalso
          have e2' : s = 44 :: 32 :: (txs (a :: b) ++ t) := e2
          obtain ⟨c, r, e3, e4⟩ := hs
          rw [e3] at e2'
          injection e2' with i1 i2
          rcases e4 with z | z | ⟨_, r', z⟩
          · rw [z] at i1; cases i1
          · rw [z] at i1; cases i1
          · rw [z] at i2; cases i2
      | cons a b =>
        cases es with
        | nil =>
          exfalso
          have e2' : 44 :: 32 :: (txs (a :: b) ++ s) = t := e2
          obtain ⟨c, r, e3, e4⟩ := ht
          rw [e3] at e2'
          injection e2' with i1 i2
          rcases e4 with z | z | ⟨_, r', z⟩
          · rw [z] at i1; cases i1
          · rw [z] at i1; cases i1
          · rw [z] at i2; cases i2
        | cons a' b' =>
          have e2' : 44 :: 32 :: (txs (a :: b) ++ s) = 44 :: 32 :: (txs (a' :: b') ++ t) := e2
          simp only [List.cons.injEq, true_and] at e2'
          obtain ⟨e3, e4⟩ := txs_pre (a :: b) (a' :: b') s t hd.2 he.2 hs ht e2'
          rw [e3]
          exact ⟨rfl, e4⟩
end
theorem tx_inj {d e : D} (hd : nice d = true) (he : nice e = true) (h : tx d = tx e) : d = e := (tx_pre d e [] [] hd he (.inl rfl) (.inl rfl) (by rw [h])).1
/-! repr -/
theorem ch_lit_None : ch ("None" : Str) = [78, 111, 110, 101] := by decide +kernel
theorem ch_lit_True : ch ("True" : Str) = [84, 114, 117, 101] := by decide +kernel
theorem ch_lit_False : ch ("False" : Str) = [70, 97, 108, 115, 101] := by decide +kernel
theorem ch_join : ∀ ds : List D, (∀ d, d ∈ ds → ch (toR d).shown = tx d) → ch (Str.join ", " (ds.map fun d => (toR d).shown)) = txs ds
  | [], _ => by simp [txs]; rfl
  | [d], h => by
    show ch (toR d).shown = _
    rw [h d (by simp)]
    simp [txs]
  | d :: e :: r, h => by
    have ih := ch_join (e :: r) fun x hx => h x (List.mem_cons_of_mem _ hx)
    show ch ((toR d).shown ++ ", " ++ Str.join ", " ((e :: r).map fun d => (toR d).shown)) = _
    rw [ch_app, ch_app, h d (by simp), ih, show ch (", " : Str) = [44, 32] from by decide +kernel]
    simp [txs]
theorem ch_text : ∀ (ts : List Str) (k : Nat) (acc : Str), ch (textFrom k acc ts) = ch acc ++ (if k > 0 ∧ ts ≠ [] then [44, 32] else []) ++ ch (Str.join ", " ts)
  | [], k, acc => by
    show ch acc = _
    have e : ch (Str.join ", " []) = [] := rfl
    rw [e]
    simp
  | [t], k, acc => by
    show ch (acc ++ (if k > 0 then ", " else "" : String) ++ t) = _
    rw [ch_app, ch_app]
    have e : ch (Str.join ", " [t]) = ch t := rfl
    rw [e]
    by_cases hk : k > 0
    · rw [if_pos hk, if_pos ⟨hk, by simp⟩, show ch ((", " : String) : Str) = [44, 32] from by decide +kernel]
    · rw [if_neg hk, if_neg (fun z => hk z.1), show ch (("" : String) : Str) = [] from by decide +kernel]
  | t :: u :: r, k, acc => by
    have ih := ch_text (u :: r) (k + 1) (acc ++ (if k > 0 then ", " else "" : String) ++ t)
    show ch (textFrom (k + 1) (acc ++ (if k > 0 then ", " else "" : String) ++ t) (u :: r)) = _
    rw [ih, ch_app, ch_app]
    have e0 : (if k + 1 > 0 ∧ u :: r ≠ [] then [44, 32] else ([] : List Nat)) = [44, 32] := if_pos ⟨Nat.succ_pos k, by simp⟩
    rw [e0]
    have e : ch (Str.join ", " (t :: u :: r)) = ch t ++ [44, 32] ++ ch (Str.join ", " (u :: r)) := by
      show ch (t ++ ", " ++ Str.join ", " (u :: r)) = _
      rw [ch_app, ch_app, show ch (", " : Str) = [44, 32] from by decide +kernel]
    rw [e]
    by_cases hk : k > 0
    · rw [if_pos hk, if_pos ⟨hk, by simp⟩, show ch ((", " : String) : Str) = [44, 32] from by decide +kernel]
      simp
    · rw [if_neg hk, if_neg (fun z => hk z.1), show ch (("" : String) : Str) = [] from by decide +kernel]
      simp
mutual
theorem ch_shown : ∀ d : D, nice d = true → ch (toR d).shown = tx d
  | .non, _ => by simp only [toR, PyData.shown, tx]; exact ch_lit_None
  | .bl true, _ => by simp only [toR, PyData.shown, tx]; exact ch_lit_True
  | .bl false, _ => by simp only [toR, PyData.shown, tx]; exact ch_lit_False
  | .int i, _ => by simp only [toR, PyData.shown, tx]; rfl
  | .str x, h => by
    simp only [toR, PyData.shown, tx]
    exact repr_smp (by simpa only [nice] using h)
  | .tup ds, h => by
    simp only [nice] at h
    have es : (toR (.tup ds)).shown = tupleText (ds.map fun d => (toR d).shown) := by
      simp only [toR, toRL_eq, PyData.shown, shownAll_eq, List.map_map, Function.comp_def]
    rw [es]
    unfold tupleText
    rw [ch_app, ch_app, ch_join ds (ch_shownL ds h), show ch ("(" : Str) = [40] from by decide +kernel, List.length_map]
    simp only [tx]
    by_cases h1 : ds.length = 1
    · simp only [h1, beq_self_eq_true, if_true]
      rw [show ch ((",)" : String) : Str) = [44, 41] from by decide +kernel]
      simp
    · have h2 : (ds.length == 1) = false := by simpa using h1
      simp only [h1, h2, Bool.false_eq_true, if_false]
      rw [show ch ((")" : String) : Str) = [41] from by decide +kernel]
      simp
  | .lst ds, h => by
    simp only [nice] at h
    have es : (toR (.lst ds)).shown = listText (ds.map fun d => (toR d).shown) := by
      simp only [toR, toRL_eq, PyData.shown, shownAll_eq, List.map_map, Function.comp_def]
    rw [es]
    unfold listText
    rw [ch_app, ch_text, ch_join ds (ch_shownL ds h), show ch ("[" : Str) = [91] from by decide +kernel, show ch ("]" : Str) = [93] from by decide +kernel]
    simp [tx]
  | .dic ks vs, h => by
    rcases (kd_of h).2.2.2.2.2.2.2 rfl with e0 | ⟨x, i, e0, hx⟩
    · rw [e0]
      decide +kernel
    · rw [e0]
      have es : (toR (.dic [.str x] [.int i])).shown = ("{" : Str) ++ (reprText x ++ ": " ++ (toString i : String)) ++ "}" := by
        simp only [toR, toRL, List.zip_cons_cons, List.zip_nil_right, PyData.shown, PyData.shownKv]
        rfl
      rw [es, ch_app, ch_app, ch_app, ch_app, repr_smp hx, show ch ("{" : Str) = [123] from by decide +kernel, show ch ("}" : Str) = [125] from by decide +kernel, show ch (": " : Str) = [58, 32] from by decide +kernel]
      simp [tx, txD, iT]
  | .ins _ _ _, h => by simp [nice] at h
  | .exc _ _, h => by simp [nice] at h
  | .cel _, h => by simp [nice] at h
  | .scr _, h => by simp [nice] at h
theorem ch_shownL : ∀ ds : List D, niceL ds = true → ∀ d, d ∈ ds → ch (toR d).shown = tx d
  | [], _, d, hd => by cases hd
  | e :: ds, h, d, hd => by
    simp only [niceL, Bool.and_eq_true] at h
    rcases List.mem_cons.mp hd with z | hd
    · rw [z]; exact ch_shown e h.1
    · exact ch_shownL ds h.2 d hd
end
end EV

namespace EV
open PySem PySem.Spec PyProof.Rows L2
/-! ### good values: how wide, how deep -/
def bdB (w : Nat) : Nat → D → Bool
  | 0, .tup _ => false
  | 0, .lst _ => false
  | k + 1, .tup ds => decide (ds.length ≤ w) && ds.all (bdB w k)
  | k + 1, .lst ds => decide (ds.length ≤ w) && ds.all (bdB w k)
  | _, d => decide ((tx d).length ≤ 60)
def szT (w : Nat) : Nat → Nat
  | 0 => 60
  | k + 1 => w * (szT w k + 2) + 60
theorem szT_ge (w k : Nat) : 60 ≤ szT w k := by cases k <;> simp [szT]
theorem txs_le {n : Nat} : ∀ {ds : List D}, (∀ d, d ∈ ds → (tx d).length ≤ n) → (txs ds).length ≤ ds.length * (n + 2)
  | [], _ => by simp [txs]
  | d :: ds, h => by
    have ih := txs_le (ds := ds) fun x hx => h x (List.mem_cons_of_mem _ hx)
    have h0 := h d (List.mem_cons_self ..)
    simp only [txs, List.length_append, List.length_cons]
    have e : (ds.length + 1) * (n + 2) = ds.length * (n + 2) + (n + 2) := by rw [Nat.add_mul, Nat.one_mul]
    rw [e]
    cases ds with
    | nil => simp; omega
    | cons a b => simp only [List.length_cons] at ih ⊢; omega
theorem bd_len {w : Nat} : ∀ {k : Nat} {d : D}, bdB w k d = true → (tx d).length ≤ szT w k
  | 0, d, h => by
    cases d <;> simp only [bdB, decide_eq_true_eq] at h <;> first | (cases h; done) | exact h
  | k + 1, d, h => by
    have hz := szT_ge w (k + 1)
    have key : ∀ ds : List D, (decide (ds.length ≤ w) && ds.all (bdB w k)) = true → (txs ds).length ≤ w * (szT w k + 2) := fun ds h => by
      simp only [Bool.and_eq_true, decide_eq_true_eq] at h
      have := txs_le (ds := ds) (n := szT w k) fun x hx => bd_len (List.all_eq_true.mp h.2 x hx)
      exact Nat.le_trans this (Nat.mul_le_mul_right _ h.1)
    cases d <;> simp only [bdB, decide_eq_true_eq] at h <;> first | exact Nat.le_trans h hz | skip
    · have := key _ h
      simp only [tx, szT, List.length_cons, List.length_append]
      split <;> simp <;> omega
    · have := key _ h
      simp only [tx, szT, List.length_cons, List.length_append, List.length_nil]
      omega
theorem bd_mono {w w' : Nat} (hw : w ≤ w') : ∀ {k k' : Nat} {d : D}, k ≤ k' → bdB w k d = true → bdB w' k' d = true
  | 0, 0, d, _, h => by cases d <;> simp only [bdB] at h ⊢ <;> first | (cases h; done) | exact h
  | 0, k' + 1, d, _, h => by cases d <;> simp only [bdB] at h ⊢ <;> first | (cases h; done) | exact h
  | k + 1, 0, d, hk, h => by omega
  | k + 1, k' + 1, d, hk, h => by
    have key : ∀ ds : List D, (decide (ds.length ≤ w) && ds.all (bdB w k)) = true → (decide (ds.length ≤ w') && ds.all (bdB w' k')) = true := fun ds h => by
      simp only [Bool.and_eq_true, decide_eq_true_eq, List.all_eq_true] at h ⊢
      exact ⟨by omega, fun x hx => bd_mono hw (by omega) (h.2 x hx)⟩
    cases d <;> simp only [bdB] at h ⊢ <;> first | exact h | exact key _ h
theorem bd_depth {w : Nat} : ∀ {k : Nat} {d : D}, nice d = true → bdB w k d = true → (toR d).depth ≤ k + 1
  | k, .non, _, _ => by simp [toR, PyData.depth]
  | k, .bl _, _, _ => by simp [toR, PyData.depth]
  | k, .int _, _, _ => by simp [toR, PyData.depth]
  | k, .str _, _, _ => by simp [toR, PyData.depth]
  | 0, .tup _, _, h => by simp [bdB] at h
  | 0, .lst _, _, h => by simp [bdB] at h
  | k + 1, .tup ds, hn, h => by
    simp only [bdB, Bool.and_eq_true, List.all_eq_true] at h
    simp only [nice] at hn
    simp only [toR, toRL_eq, PyData.depth]
    have := depthAll_map (f := toR) (n := k + 1) (xs := ds) fun x hx => bd_depth (niceL_mem hn hx) (h.2 x hx)
    omega
  | k + 1, .lst ds, hn, h => by
    simp only [bdB, Bool.and_eq_true, List.all_eq_true] at h
    simp only [nice] at hn
    simp only [toR, toRL_eq, PyData.depth]
    have := depthAll_map (f := toR) (n := k + 1) (xs := ds) fun x hx => bd_depth (niceL_mem hn hx) (h.2 x hx)
    omega
  | k, .dic ks vs, hn, h => by
    rcases (kd_of hn).2.2.2.2.2.2.2 rfl with e0 | ⟨x, i, e0, hx⟩
    · rw [e0]; simp [toR, toRL, PyData.depth, PyData.depthKv]
    · rw [e0]; simp [toR, toRL, PyData.depth, PyData.depthKv]
  | k, .ins _ _ _, h, _ => by simp [nice] at h
  | k, .exc _ _, h, _ => by simp [nice] at h
  | k, .cel _, h, _ => by simp [nice] at h
  | k, .scr _, h, _ => by simp [nice] at h
where niceL_mem : ∀ {ds : List D}, niceL ds = true → ∀ {x : D}, x ∈ ds → nice x = true
  | d :: ds, h, x, hx => by
    simp only [niceL, Bool.and_eq_true] at h
    rcases List.mem_cons.mp hx with e | hx
    · rw [e]; exact h.1
    · exact niceL_mem h.2 hx
  | [], _, x, hx => by cases hx
theorem niceL_mem {ds : List D} (h : niceL ds = true) {x : D} (hx : x ∈ ds) : nice x = true := bd_depth.niceL_mem h hx
theorem niceL_of : ∀ {ds : List D}, (∀ d, d ∈ ds → nice d = true) → niceL ds = true
  | [], _ => by simp [niceL]
  | d :: ds, h => by simp [niceL, h d (by simp), niceL_of fun e he => h e (List.mem_cons_of_mem _ he)]
theorem tx_small : ∀ d : D, nice d = true → ∀ c, c ∈ tx d → c < 1114112 := by
  have key : ∀ (n : Nat) (d : D), sizeOf d ≤ n → nice d = true → ∀ c, c ∈ tx d → c < 1114112 := by
    intro n
    induction n with
    | zero => intro d hd; cases d <;> simp at hd <;> omega
    | succ n ih =>
      intro d hd hn c hc
      have L : ∀ ds : List D, sizeOf ds ≤ n → niceL ds = true → ∀ c, c ∈ txs ds → c < 1114112 := by
        intro ds
        induction ds with
        | nil => intro _ _ c hc; simp [txs] at hc
        | cons e ds ih2 =>
          intro hz hl c hc
          simp only [niceL, Bool.and_eq_true] at hl
          simp at hz
          simp only [txs, List.mem_append] at hc
          rcases hc with hc | hc
          · exact ih e (by omega) hl.1 c hc
          · cases ds with
            | nil => simp at hc
            | cons a b =>
              simp only [List.mem_cons] at hc
              rcases hc with rfl | rfl | hc
              · decide
              · decide
              · exact ih2 (by omega) hl.2 c hc
      have S : ∀ x : Str, smp x = true → ∀ c, c ∈ ch x → c < 1114112 := fun x hx c hc => by
        have := smp_ne hx hc
        simp only [smpC, Bool.and_eq_true, decide_eq_true_eq] at this
        omega
      have I : ∀ i : Int, ∀ c, c ∈ iT i → c < 1114112 := fun i c hc => by
        have := iT_ch hc
        simp only [numC, Bool.or_eq_true, Bool.and_eq_true, decide_eq_true_eq, beq_iff_eq] at this
        omega
      cases d with
      | non => simp [tx] at hc; omega
      | bl b => cases b <;> simp [tx] at hc <;> omega
      | int i => simp only [tx] at hc; exact I i c hc
      | str x =>
        simp only [nice] at hn
        simp only [tx, List.mem_cons, List.mem_append, List.not_mem_nil, or_false] at hc
        rcases hc with rfl | hc | rfl
        · decide
        · exact S x hn c hc
        · decide
      | tup ds =>
        simp only [nice] at hn
        simp at hd
        simp only [tx, List.mem_cons, List.mem_append] at hc
        rcases hc with rfl | hc | hc
        · decide
        · exact L ds (by omega) hn c hc
        · split at hc <;> simp at hc <;> omega
      | lst ds =>
        simp only [nice] at hn
        simp at hd
        simp only [tx, List.mem_cons, List.mem_append, List.not_mem_nil, or_false] at hc
        rcases hc with rfl | hc | rfl
        · decide
        · exact L ds (by omega) hn c hc
        · decide
      | dic ks vs =>
        rcases (kd_of hn).2.2.2.2.2.2.2 rfl with e0 | ⟨x, i, e0, hx⟩
        · rw [e0] at hc; simp [tx, txD] at hc; omega
        · rw [e0] at hc
          simp only [tx, txD, List.mem_cons, List.mem_append, List.not_mem_nil, or_false] at hc
          rcases hc with rfl | rfl | ((hc | hc) | hc) | hc
          · decide
          · decide
          · exact S x hx c hc
          · rcases hc with rfl | rfl | rfl <;> decide
          · exact I i c hc
          · omega
      | ins _ _ _ => simp [nice] at hn
      | exc _ _ => simp [nice] at hn
      | cel _ => simp [nice] at hn
      | scr _ => simp [nice] at hn
  exact fun d => key _ d (Nat.le_refl _)
theorem nice_rpl : ∀ d : D, nice d = true → rpl d = true ∧ (toR d).showable = true := by
  have key : ∀ (n : Nat) (d : D), sizeOf d ≤ n → nice d = true → rpl d = true ∧ (toR d).showable = true := by
    intro n
    induction n with
    | zero => intro d hd; cases d <;> simp at hd <;> omega
    | succ n ih =>
      intro d hd hn
      have L : ∀ ds : List D, sizeOf ds ≤ n → niceL ds = true → rplL ds = true ∧ PyData.showableAll (toRL ds) = true := by
        intro ds
        induction ds with
        | nil => intro _ _; simp [rplL, toRL, PyData.showableAll]
        | cons e ds ih2 =>
          intro hz hl
          simp only [niceL, Bool.and_eq_true] at hl
          simp at hz
          obtain ⟨h1, h2⟩ := ih e (by omega) hl.1
          obtain ⟨h3, h4⟩ := ih2 (by omega) hl.2
          simp [rplL, toRL, PyData.showableAll, h1, h2, h3, h4]
      have I : ∀ i : Int, i.natAbs < 10 ^ 18 → (PyData.int i).showable = true := fun i hi => by
        simp only [PyData.showable, decide_eq_true_eq]
        by_cases h0 : i.natAbs = 0
        · rw [h0]; decide
        · have : i.natAbs.log2 < 60 := (Nat.log2_lt h0).mpr (by omega)
          omega
      cases d with
      | non => simp [rpl, toR, PyData.showable]
      | bl b => simp [rpl, toR, PyData.showable]
      | int i =>
        simp only [nice, decide_eq_true_eq] at hn
        exact ⟨rfl, by simp only [toR]; exact I i hn⟩
      | str x => simp [rpl, toR, PyData.showable]
      | tup ds =>
        simp only [nice] at hn
        simp at hd
        simp only [rpl, toR, PyData.showable]
        exact L ds (by omega) hn
      | lst ds =>
        simp only [nice] at hn
        simp at hd
        simp only [rpl, toR, PyData.showable]
        exact L ds (by omega) hn
      | dic ks vs =>
        simp only [nice] at hn
        unfold niceD at hn
        split at hn
        · simp [rpl, rplL, toR, toRL, PyData.showable, PyData.showableKv]
        · simp only [Bool.and_eq_true, decide_eq_true_eq] at hn
          have := I _ hn.2
          simp [rpl, rplL, toR, toRL, PyData.showable, PyData.showableKv] at this ⊢
          exact this
        · cases hn
      | ins _ _ _ => simp [nice] at hn
      | exc _ _ => simp [nice] at hn
      | cel _ => simp [nice] at hn
      | scr _ => simp [nice] at hn
  exact fun d => key _ d (Nat.le_refl _)
theorem shown_len (x : Str) : x.length = (ch x).length := (Array.length_toList (xs := x.cps)).symm
/-- good -/
structure Gd (w k : Nat) (d : D) : Prop where
  ni : nice d = true
  bd : bdB w k d = true
theorem Gd.mono {w k w' k' : Nat} {d : D} (h : Gd w k d) (hw : w ≤ w') (hk : k ≤ k') : Gd w' k' d := ⟨h.ni, bd_mono hw hk h.bd⟩
theorem Gd.sw {w k : Nat} {d : D} (h : Gd w k d) : Sw (k + 1) (szT w k) d := by
  have e : ch (toR d).shown = tx d := ch_shown d h.ni
  refine ⟨(nice_rpl d h.ni).1, (nice_rpl d h.ni).2, bd_depth h.ni h.bd, ?_, ?_⟩
  · rw [shown_len, e]; exact bd_len h.bd
  · unfold cpOk
    rw [← Array.all_toList]
    show (ch (toR d).shown).all _ = true
    rw [e]
    exact List.all_eq_true.mpr fun c hc => decide_eq_true (tx_small d h.ni c hc)
theorem shown_iff {d e : D} (hd : nice d = true) (he : nice e = true) : (toR d).shown = (toR e).shown ↔ d = e := by
  constructor
  · intro h
    have := congrArg ch h
    rw [ch_shown d hd, ch_shown e he] at this
    exact tx_inj hd he this
  · intro h; rw [h]
/-- repr of both, compared -/
theorem Gd.repr {w k : Nat} {d : D} (h : Gd w k d) (hk : k + 1 ≤ 100) (hz : szT w k ≤ 16000000) (S : Cells) : EV.gRepr S d = some (.str (toR d).shown, false) := h.sw.gRepr hk hz S
open Classical in
theorem repr_ne {d e : D} (hd : nice d = true) (he : nice e = true) (S : Cells) : dNe S (.str (toR d).shown) (.str (toR e).shown) = some (.bl (decide (d ≠ e)), false) := by
  rw [fS.dNe (by decide)]
  congr 3
  exact decide_eq_decide.mpr (not_congr (shown_iff hd he))
open Classical in
theorem repr_eq {d e : D} (hd : nice d = true) (he : nice e = true) (S : Cells) : dEq S (.str (toR d).shown) (.str (toR e).shown) = some (.bl (decide (d = e)), false) := by
  rw [fS.dEq (by decide)]
  congr 3
  exact decide_eq_decide.mpr (shown_iff hd he)
end EV

namespace EV
open PySem PySem.Spec PyProof.Rows L2
/-! ### drawn values of any kind -/
def ofForm (pg : Pg) : SS := sRet [1, 0] (cOp2 dIx (cVar 1) (cCall ("_law_take", none) [] (aOf [cVar 0, cLen pg (cVar 1)])))
def odd1 : SE := cOpn gLstN (aOf [cCon .non, cCon (.bl true), cCon (.bl false), cCon (.int 0), cCon (.int 1), cOp1 dNeg (cCon (.int 1)), cCon (.int 2), cCon (.int 7), cCon (.str ""), cCon (.str "a"), cCon (.str "x"), cCon (.str "01"), cCon (.str "write"), cOpn gTupN (aOf []), cOpn gLstN (aOf []), cOpn (gDic []) (aNil), cOpn gTupN (aOf [cCon (.int 0)]), cOpn gTupN (aOf [cOpn gTupN (aOf [])]), cOpn gLstN (aOf [cCon (.int 0)]), cOpn (gDic [.inr "a"]) (aOf [cCon (.int 1)])])
def odd2 : SE := cOp2 dAdd (cVar 1) (cOpn gLstN (aOf [cOpn gTupN (aOf [cCon (.str "a")]), cOpn gTupN (aOf [cCon (.str "a"), cCon (.str "b")]), cOpn gTupN (aOf [cOpn gTupN (aOf [cCon (.str "a")])]), cOpn gTupN (aOf [cOpn gTupN (aOf [cCon (.str "a")]), cOpn gTupN (aOf [cCon (.str "b")])]), cOpn gTupN (aOf [cCon (.str "a"), cCon (.int 0)]), cOpn gTupN (aOf [cOpn gTupN (aOf [cCon (.str "a"), cCon (.int 0)])]), cOpn gTupN (aOf [cCon (.str "back"), cOpn gTupN (aOf [])]), cOpn gTupN (aOf [cCon .non]), cCon (.str "A")]))
def oddForm : SS := sSeq (sSet 1 [] odd1) (sSeq (sSet 1 [1] odd2) (sRet [0, 1] (cCall ("_law_of", none) [] (aOf [cVar 0, cVar 1]))))
def bt1 : ST := tAndT (tVal (cOp1 (gIsT "tuple") (cVar 1))) (tAndT (tBl (cOp2 dNe (cVar 1) (cOpn gTupN (aOf [])))) (tBl (cOp2 dGt (cCall ("_law_take", none) [] (aOf [cVar 0, cCon (.int 7)])) (cCon (.int 0)))))
def bd1 (pg : Pg) : SS := sSet 2 [0, 1] (cCall ("_law_take", none) [] (aOf [cVar 0, cLen pg (cVar 1)]))
def bd2 : SS := sRet [1, 2, 0] (cOp2 dAdd (cOp2 dAdd (cSl (cVar 1) oNone (oSome (cVar 2))) (cOpn gTupN (aOf [cCall ("_law_bent", none) [] (aOf [cVar 0, cOp2 dIx (cVar 1) (cVar 2)])]))) (cSl (cVar 1) (oSome (cOp2 dAdd (cVar 2) (cCon (.int 1)))) oNone))
def bTup : SE := cOpn gLstN (aOf [cOpn bList (aOf [cVar 1]), cSl (cVar 1) (oSome (cCon (.int 1))) oNone, cSl (cVar 1) oNone (oSome (cOp1 dNeg (cCon (.int 1)))), cOp2 dAdd (cVar 1) (cSl (cVar 1) (oSome (cOp1 dNeg (cCon (.int 1)))) oNone), cOp1 dBack (cVar 1), cOpn gTupN (aOf []), cCon .non])
def bBol : SE := cOpn gLstN (aOf [cOp1 gNot (cVar 1), cOpn bInt (aOf [cVar 1]), cCon .non])
def bNum : SE := cOpn gLstN (aOf [cOp2 dAdd (cVar 1) (cCon (.int 1)), cOp2 dSub (cVar 1) (cCon (.int 1)), cOp2 dEq (cVar 1) (cCon (.int 1)), cCon (.str "1"), cCon .non, cCon (.int 0), cOp1 dNeg (cVar 1)])
def bWrd : SE := cOpn gLstN (aOf [cOp2 dAdd (cVar 1) (cCon (.str "a")), cSl (cVar 1) oNone (oSome (cOp1 dNeg (cCon (.int 1)))), cOp1 gUpper (cVar 1), cCon (.str "a"), cCon (.str "back"), cCon .non, cCon (.int 0), cOpn gLstN (aOf [cVar 1])])
def bOf (f : SE) : SS := sRet [0, 1] (cCall ("_law_of", none) [] (aOf [cVar 0, f]))
def bIs (T : String) (f : SE) : SS := sIf [1] (tVal (cOp1 (gIsT T) (cVar 1))) (bOf f) sPass
def bentForm (pg : Pg) : SS := sSeq (sIf [1, 0] bt1 (sSeq (bd1 pg) bd2) sPass) (sSeq (bIs "tuple" bTup) (sSeq (bIs "bool" bBol) (sSeq (bIs "int" bNum) (sSeq (bIs "str" bWrd) (sRet [0] (cCall ("_law_odd", none) [] (aOf [cVar 0])))))))
structure Drw (tab : Fk → Option Bd) (pg : Pg) : Prop where
  tk : ∀ j, 1 ≤ j → TakesP (caF tab j)
  of_ : tab ("_law_of", none) = some (.fn ⟨2, 2, ofForm pg⟩)
theorem fu {j n : Nat} (h : n + 1 ≤ j) : ∃ i, j = i + 1 ∧ n ≤ i := ⟨j - 1, by omega, by omega⟩
section
variable {tab : Fk → Option Bd} {pg : Pg}
theorem cLen_lst {f : SE} {ca : Ca} {ρ : En} {S S' : Cells} {ds : List D} {o : Bool} (h : f ca ρ S = .ok (.lst ds, o) S') : cLen pg f ca ρ S = .ok (.int ds.length, false) S' := by
  simp [cLen, h, R.bind_ok, mtOk, bLen, lenD, bI, lift]
theorem cLen_tup {f : SE} {ca : Ca} {ρ : En} {S S' : Cells} {ds : List D} {o : Bool} (h : f ca ρ S = .ok (.tup ds, o) S') : cLen pg f ca ρ S = .ok (.int ds.length, false) S' := by
  simp [cLen, h, R.bind_ok, mtOk, bLen, lenD, bI, lift]
theorem of_s (dr : Drw tab pg) {j : Nat} (hj : 2 ≤ j) {c : Nat} {L : Shp} {M : Int} {S : Cells} (p : Ps c L M S) (hM : M < 2 ^ 39) {ds : List D} (h0 : 0 < ds.length) (h1 : ds.length < 1000) {v : D} (hv : v = .lst ds ∨ v = .tup ds) :
    ∃ d S', caF tab j ("_law_of", none) [.cel c, v] S = .ok (d, false) S' ∧ d ∈ ds ∧ Ps c L (M + 1) S' := by
  obtain ⟨i, rfl, hi⟩ := fu hj
  obtain ⟨r, S1, t1, t2, t3, t4⟩ := dr.tk i hi c L M (ds.length : Int) S p (by omega) (by omega) (by omega)
  have hlt : r.toNat < ds.length := by omega
  refine ⟨ds[r.toNat], S1, ?_, List.getElem_mem hlt, t4⟩
  rw [ca_eq dr.of_, runB_fn (show [D.cel c, v].length = 2 from rfl)]
  unfold ofForm
  rw [sRet_eq]
  have vw : viewF [1, 0] 0 (initE 2 [D.cel c, v]) = [some (.cel c), some v] := rfl
  rw [vw]
  have hl : cLen pg (cVar 1) (caF tab i) [some (.cel c), some v] S = .ok (.int ds.length, false) S := by
    rcases hv with rfl | rfl
    · exact cLen_lst rfl
    · exact cLen_tup rfl
  have hix : atI ds r = some ds[r.toNat] := by
    unfold atI ixN
    rw [if_pos t2, if_pos (by omega)]
    simp [hlt]
  have hd : dIx S1 v (.int r) = some (ds[r.toNat], false) := by
    rcases hv with rfl | rfl
    · simp [dIx, ixD, hix]
    · simp [dIx, ixD, hix]
  have e1 : cCall ("_law_take", none) [] (aOf [cVar 0, cLen pg (cVar 1)]) (caF tab i) [some (.cel c), some v] S = .ok (.int r, false) S1 := by
    have ev : cVar 0 (caF tab i) [some (D.cel c), some v] S = .ok (.cel c, false) S := rfl
    unfold cCall
    rw [aOf_cons, ev, R.bind_ok, aOf_cons, hl, R.bind_ok, aOf_nil, R.bind_ok, R.bind_ok, R.bind_ok]
    exact t1
  have ev : cVar 1 (caF tab i) [some (D.cel c), some v] S = .ok (v, false) S := rfl
  unfold cOp2
  rw [ev, R.bind_ok, e1, R.bind_ok, hd]
  rfl
def oddL : List D := [.non, .bl true, .bl false, .int 0, .int 1, .int (-1), .int 2, .int 7, .str "", .str "a", .str "x", .str "01", .str "write", .tup [], .lst [], .dic [] [], .tup [.int 0], .tup [.tup []], .lst [.int 0], .dic [.str "a"] [.int 1],
  .tup [.str "a"], .tup [.str "a", .str "b"], .tup [.tup [.str "a"]], .tup [.tup [.str "a"], .tup [.str "b"]], .tup [.str "a", .int 0], .tup [.tup [.str "a", .int 0]], .tup [.str "back", .tup []], .tup [.non], .str "A"]
theorem odd_s (dr : Drw tab pg) (ho : tab ("_law_odd", none) = some (.fn ⟨1, 2, oddForm⟩)) {j : Nat} (hj : 3 ≤ j) {c : Nat} {L : Shp} {M : Int} {S : Cells} (p : Ps c L M S) (hM : M < 2 ^ 39) :
    ∃ d S', caF tab j ("_law_odd", none) [.cel c] S = .ok (d, false) S' ∧ d ∈ oddL ∧ Ps c L (M + 1) S' := by
  obtain ⟨i, rfl, hi⟩ := fu hj
  obtain ⟨d, S', e, hd, p'⟩ := of_s dr (j := i) hi p hM (ds := oddL) (by decide) (by decide) (v := .lst oddL) (.inl rfl)
  refine ⟨d, S', ?_, hd, p'⟩
  rw [ca_eq ho, runB_fn (show [D.cel c].length = 1 from rfl)]
  have e1 : sSet 1 [] odd1 (caF tab i) (initE 2 [D.cel c]) S = .ok (.nx [some (.cel c, false), some (.lst (oddL.take 20), true)]) S := by kernel_rfl
  have e2 : sSet 1 [1] odd2 (caF tab i) [some (.cel c, false), some (.lst (oddL.take 20), true)] S = .ok (.nx [some (.cel c, false), some (.lst oddL, true)]) S := by kernel_rfl
  have e3 : sRet [0, 1] (cCall ("_law_of", none) [] (aOf [cVar 0, cVar 1])) (caF tab i) [some (.cel c, false), some (.lst oddL, true)] S = .ok (.rt (d, false)) S' := by
    rw [sRet_eq]
    have vw : viewF [0, 1] 0 [some (D.cel c, false), some (.lst oddL, true)] = [some (.cel c), some (.lst oddL)] := rfl
    rw [vw]
    have e4 : cCall ("_law_of", none) [] (aOf [cVar 0, cVar 1]) (caF tab i) [some (.cel c), some (.lst oddL)] S = caF tab i ("_law_of", none) [.cel c, .lst oddL] S := rfl
    rw [e4, e]
    rfl
  unfold oddForm
  rw [sSeq_nx e1, sSeq_nx e2, e3]
  rfl
end
end EV

namespace EV
open PySem PySem.Spec PyProof.Rows L2
/-! ### texts -/
theorem upper_all : ((List.range 127).all fun c => !smpC c || (decide (Unicode.upperOf c = [(Unicode.upperOf c).headD c]) && smpC ((Unicode.upperOf c).headD c))) = true := by decide +kernel
theorem upper_one {c : Nat} (h : smpC c = true) : Unicode.upperOf c = [(Unicode.upperOf c).headD c] ∧ smpC ((Unicode.upperOf c).headD c) = true := by
  have hc : c < 127 := by
    simp only [smpC, Bool.and_eq_true, decide_eq_true_eq] at h
    omega
  have := List.all_eq_true.mp upper_all c (List.mem_range.mpr hc)
  simp only [h, Bool.not_true, Bool.false_or, Bool.and_eq_true, decide_eq_true_eq] at this
  exact this
theorem ch_upper {x : Str} (h : smp x = true) : ch (Txt.upper x) = (ch x).map fun c => (Unicode.upperOf c).headD c := by
  have e := placed_single x (fun _ c => Unicode.upperOf c) (fun c => (Unicode.upperOf c).headD c) fun i c hc => (upper_one (smp_ne h (List.mem_of_getElem? hc))).1
  show (placed x fun _ c => Unicode.upperOf c).toList = _
  rw [e, Array.toList_map]
  rfl
theorem smp_upper {x : Str} (h : smp x = true) : smp (Txt.upper x) = true := by
  unfold smp
  rw [ch_upper h, List.all_map]
  exact List.all_eq_true.mpr fun c hc => (upper_one (smp_ne h hc)).2
theorem smp_cp {x : Str} (h : smp x = true) : cpOk x = true := by
  unfold cpOk
  rw [← Array.all_toList]
  refine List.all_eq_true.mpr fun c hc => decide_eq_true ?_
  have := smp_ne h hc
  simp only [smpC, Bool.and_eq_true, decide_eq_true_eq] at this
  omega
theorem smp_app {x y : Str} (hx : smp x = true) (hy : smp y = true) : smp (x ++ y) = true := by
  unfold smp at hx hy ⊢
  rw [ch_app, List.all_append, hx, hy]
  rfl
theorem ch_cut (x : Str) (lo hi : Option Int) : ch (cutS x lo hi) = cutD (ch x) lo hi := by
  have : (ch x).length = x.length := (shown_len x).symm
  unfold cutD
  rw [this]
  show (List.toArray _).toList = _
  rfl
theorem smp_cut {x : Str} (h : smp x = true) (lo hi : Option Int) : smp (cutS x lo hi) = true := by
  unfold smp
  rw [ch_cut]
  exact List.all_eq_true.mpr fun c hc => smp_ne h (cutD_sub hc)
theorem cut_len {α : Type} (xs : List α) (lo hi : Option Int) : (cutD xs lo hi).length ≤ xs.length := by
  unfold cutD
  rw [List.length_take, List.length_drop]
  omega
theorem cut_last {α : Type} (xs : List α) : (cutD xs (some (-1)) none).length ≤ 1 := by
  unfold cutD
  rw [List.length_take, HT.sIx_none]
  have e : HT.sIx xs.length 0 (some (-1)) = xs.length - 1 := by
    show (if (-1 : Int) < 0 then ((-1 : Int) + (xs.length : Int)).toNat else min (-1 : Int).toNat xs.length) = _
    rw [if_pos (by decide)]
    omega
  rw [e]
  omega
theorem cut_to {α : Type} (xs : List α) (i : Nat) (h : i ≤ xs.length) : cutD xs none (some (i : Int)) = xs.take i := by
  unfold cutD
  rw [HT.sIx_none, HT.sIx_nat]
  simp [Nat.min_eq_left h]
theorem cut_from {α : Type} (xs : List α) (i : Nat) (h : i ≤ xs.length) : cutD xs (some (i : Int)) none = xs.drop i := by
  unfold cutD
  rw [HT.sIx_none, HT.sIx_nat, Nat.min_eq_left h, List.take_of_length_le (by rw [List.length_drop]; omega)]
/-! ### what is bent -/
def bnB (w : Nat) : Nat → D → Bool
  | 0, .tup _ => false
  | k + 1, .tup ds => decide (ds.length ≤ w) && ds.all (bnB w k)
  | _, .str x => smp x && decide ((ch x).length ≤ 30)
  | _, .int i => decide (i.natAbs < 10 ^ 9)
  | _, .bl _ => true
  | _, _ => false
theorem int_len {i : Int} (h : i.natAbs < 10 ^ 18) : (iT i).length ≤ 60 := by
  have := PySem.int_text_length_le10 (a := i) (k := 18) (by decide) h
  unfold iT ch
  rw [PySem.Str.ofString_eq_toList]
  show ((toString i).toList.map Char.toNat).length ≤ 60
  rw [List.length_map]
  have e : (toString i).toList.length = (toString i).length := rfl
  omega
theorem gd_int {i : Int} {w k : Nat} (h : i.natAbs < 10 ^ 18) : Gd w k (.int i) := ⟨by simp only [nice, decide_eq_true_eq]; exact h, by
  cases k <;> simp only [bdB, tx] <;> exact decide_eq_true (int_len h)⟩
theorem gd_str {x : Str} {w k : Nat} (h : smp x = true) (hl : (ch x).length ≤ 58) : Gd w k (.str x) := ⟨by simp only [nice]; exact h, by
  cases k <;> simp only [bdB, decide_eq_true_eq, tx, List.length_cons, List.length_append, List.length_nil] <;> omega⟩
theorem gd_bl {b : Bool} {w k : Nat} : Gd w k (.bl b) := ⟨rfl, by cases k <;> cases b <;> rfl⟩
theorem gd_non {w k : Nat} : Gd w k .non := ⟨rfl, by cases k <;> rfl⟩
theorem gd_tup {ds : List D} {w k : Nat} (hl : ds.length ≤ w) (h : ∀ d, d ∈ ds → Gd w k d) : Gd w (k + 1) (.tup ds) := ⟨by simp only [nice]; exact niceL_of fun d hd => (h d hd).ni, by
  simp only [bdB, Bool.and_eq_true, decide_eq_true_eq, List.all_eq_true]
  exact ⟨hl, fun d hd => (h d hd).bd⟩⟩
theorem gd_lst {ds : List D} {w k : Nat} (hl : ds.length ≤ w) (h : ∀ d, d ∈ ds → Gd w k d) : Gd w (k + 1) (.lst ds) := ⟨by simp only [nice]; exact niceL_of fun d hd => (h d hd).ni, by
  simp only [bdB, Bool.and_eq_true, decide_eq_true_eq, List.all_eq_true]
  exact ⟨hl, fun d hd => (h d hd).bd⟩⟩
theorem bn_gd {w : Nat} : ∀ {k : Nat} {d : D}, bnB w k d = true → Gd w k d
  | k, .non, h => by cases k <;> simp [bnB] at h
  | k, .bl _, _ => gd_bl
  | k, .int i, h => gd_int (by cases k <;> simp only [bnB, decide_eq_true_eq] at h <;> omega)
  | k, .str x, h => by
    have h' : smp x = true ∧ (ch x).length ≤ 30 := by cases k <;> simpa [bnB] using h
    exact gd_str h'.1 (by omega)
  | 0, .tup ds, h => by simp [bnB] at h
  | k + 1, .tup ds, h => by
    simp only [bnB, Bool.and_eq_true, decide_eq_true_eq, List.all_eq_true] at h
    exact gd_tup h.1 fun d hd => bn_gd (h.2 d hd)
  | k, .lst _, h => by cases k <;> simp [bnB] at h
  | k, .dic _ _, h => by cases k <;> simp [bnB] at h
  | k, .ins _ _ _, h => by cases k <;> simp [bnB] at h
  | k, .exc _ _, h => by cases k <;> simp [bnB] at h
  | k, .cel _, h => by cases k <;> simp [bnB] at h
  | k, .scr _, h => by cases k <;> simp [bnB] at h
theorem plnL_all : ∀ {ds : List D}, (∀ d, d ∈ ds → pln d = true) → plnL ds = true
  | [], _ => rfl
  | d :: ds, h => by simp [plnL, h d (by simp), plnL_all fun e he => h e (List.mem_cons_of_mem _ he)]
theorem bn_pln {w : Nat} : ∀ {k : Nat} {d : D}, bnB w k d = true → pln d = true
  | k, .non, h => by cases k <;> simp [bnB] at h
  | k, .bl _, _ => rfl
  | k, .int i, h => rfl
  | k, .str x, h => rfl
  | 0, .tup ds, h => by simp [bnB] at h
  | k + 1, .tup ds, h => by
    simp only [bnB, Bool.and_eq_true, decide_eq_true_eq, List.all_eq_true] at h
    simp only [pln]
    exact plnL_all fun d hd => bn_pln (h.2 d hd)
  | k, .lst _, h => by cases k <;> simp [bnB] at h
  | k, .dic _ _, h => by cases k <;> simp [bnB] at h
  | k, .ins _ _ _, h => by cases k <;> simp [bnB] at h
  | k, .exc _ _, h => by cases k <;> simp [bnB] at h
  | k, .cel _, h => by cases k <;> simp [bnB] at h
  | k, .scr _, h => by cases k <;> simp [bnB] at h
/-- a value of any kind: what a tuple has within is plain -/
structure Any (w k : Nat) (d : D) : Prop extends Gd w k d where
  tp : ∀ ds, d = .tup ds → plnL ds = true
theorem Any.mono {w k w' k' : Nat} {d : D} (h : Any w k d) (hw : w ≤ w') (hk : k ≤ k') : Any w' k' d := ⟨h.toGd.mono hw hk, h.tp⟩
theorem any_tup {ds : List D} {w k : Nat} (hl : ds.length ≤ w) (h : ∀ d, d ∈ ds → Gd w k d) (hp : ∀ d, d ∈ ds → pln d = true) : Any w (k + 1) (.tup ds) := ⟨gd_tup hl h, fun es e => by cases e; exact plnL_all hp⟩
theorem any_leaf {d : D} {w k : Nat} (h : Gd w k d) (hn : ∀ ds, d ≠ .tup ds) : Any w k d := ⟨h, fun ds e => absurd e (hn ds)⟩
def anyB (w k : Nat) (d : D) : Bool := nice d && bdB w k d && (match d with
  | .tup ds => plnL ds
  | _ => true)
theorem anyB_ok {w k : Nat} {d : D} (h : anyB w k d = true) : Any w k d := by
  simp only [anyB, Bool.and_eq_true] at h
  exact ⟨⟨h.1.1, h.1.2⟩, fun ds e => by subst e; exact h.2⟩
theorem odd_any : (oddL.all (anyB 2 2)) = true := by decide +kernel
theorem odd_ok {d : D} (h : d ∈ oddL) {w k : Nat} (hw : 2 ≤ w) (hk : 2 ≤ k) : Any w k d := (anyB_ok (List.all_eq_true.mp odd_any d h)).mono hw hk
section
variable {tab : Fk → Option Bd} {pg : Pg}
theorem is_t {ca : Ca} {c : Nat} {d : D} {x : Option D} {S : Cells} {T a : String} (h : tyD d = some a) : tVal (cOp1 (gIsT T) (cVar 1)) ca [some (.cel c), some d, x] S = .ok (tyB a T) S := by
  simp [runB, runF, initE, sSeq, sIf, exT_eq, sRet_eq, ex1_eq, exI_eq, sSet, sExpr, sFor, cOp1, cOp2, cOpn, cCall, aOf_nil, aOf_cons, aCons, aNil, aStar, seqD, cAnd, cOr, cIf, tNotT, tAndT, tOrT, tBl, tVal, cCon, cVar, lift, R.bind_ok, viewF, viewB, giveF, giveB, ownAt, immB, endF, sPass, tru, EV.iVal, itemsD, EV.iRng1, EV.iRng2, EV.iEnuA, EV.iZip, gNot, bB, bI, gIsT, h]
def bE (c : Nat) (d : D) : SEn := [some (.cel c, false), some (d, false), none]
theorem bIs_no {ca : Ca} {c : Nat} {d : D} {S : Cells} {T a : String} {f : SE} (h : tyD d = some a) (ht : tyB a T = false) : bIs T f ca (bE c d) S = .ok (.nx (bE c d)) S := by
  unfold bIs
  refine sIf_no ?_
  show tVal (cOp1 (gIsT T) (cVar 1)) ca [some (.cel c), some d, none] S = _
  rw [is_t h, ht]
theorem bIs_yes (dr : Drw tab pg) {i : Nat} (hi : 2 ≤ i) {c : Nat} {d : D} {S : Cells} {T a : String} {f : SE} {ds : List D} (h : tyD d = some a) (ht : tyB a T = true) (hf : f (caF tab i) [some (.cel c), some d, none] S = .ok (.lst ds, true) S) (h0 : 0 < ds.length) (h1 : ds.length < 1000)
    {L : Shp} {M : Int} (p : Ps c L M S) (hM : M < 2 ^ 39) : ∃ e S', bIs T f (caF tab i) (bE c d) S = .ok (.rt (e, false)) S' ∧ e ∈ ds ∧ Ps c L (M + 1) S' := by
  obtain ⟨e, S', q1, q2, q3⟩ := of_s dr hi p hM h0 h1 (v := .lst ds) (.inl rfl)
  refine ⟨e, S', ?_, q2, q3⟩
  unfold bIs
  rw [sIf_yes (S' := S) (by
    show tVal (cOp1 (gIsT T) (cVar 1)) (caF tab i) [some (.cel c), some d, none] S = _
    rw [is_t h, ht])]
  unfold bOf
  rw [sRet_eq]
  have vw : viewF [0, 1] 0 (bE c d) = [some (.cel c), some d, none] := rfl
  rw [vw]
  have ev : cVar 0 (caF tab i) [some (D.cel c), some d, none] S = .ok (.cel c, false) S := rfl
  unfold cCall
  rw [aOf_cons, ev, R.bind_ok, aOf_cons, hf, R.bind_ok, aOf_nil, R.bind_ok, R.bind_ok, R.bind_ok]
  show ((caF tab i ("_law_of", none) [D.cel c, .lst ds] S).bind _) = _
  rw [q1]
  rfl
theorem bt1_no {ca : Ca} {c : Nat} {d : D} {S : Cells} {a : String} (h : tyD d = some a) (ht : tyB a "tuple" = false) : bt1 ca [some (.cel c), some d, none] S = .ok false S := by
  unfold bt1 tAndT
  rw [is_t h, ht]
  rfl
/-- what is not a tuple -/
theorem bent_leaf {tab : Fk → Option Bd} {pg : Pg} {i : Nat} {c : Nat} {d : D} {S S' : Cells} {a : String} {r : R Fl} (h : tyD d = some a) (ht : tyB a "tuple" = false)
    (hr : sSeq (bIs "bool" bBol) (sSeq (bIs "int" bNum) (sSeq (bIs "str" bWrd) (sRet [0] (cCall ("_law_odd", none) [] (aOf [cVar 0]))))) (caF tab i) (bE c d) S = r) : bentForm pg (caF tab i) (bE c d) S = r := by
  unfold bentForm
  rw [sSeq_nx (sIf_no (show bt1 (caF tab i) (viewF [1, 0] 0 (bE c d)) S = .ok false S from bt1_no h ht)), sSeq_nx (bIs_no h ht)]
  exact hr
theorem bTup_s {ca : Ca} {c : Nat} {ds : List D} {S : Cells} (hl : ds.length ≤ 1000) : bTup ca [some (.cel c), some (.tup ds), none] S = .ok (.lst [.lst ds, .tup (cutD ds (some 1) none), .tup (cutD ds none (some (-1))), .tup (ds ++ cutD ds (some (-1)) none), .tup ds.reverse, .tup [], .non], true) S := by
  have h1 := cut_len ds (some (-1)) none
  have h2 : ds.length + (cutD ds (some (-1)) none).length ≤ 16777216 := by omega
  unfold bTup
  simp [runB, runF, initE, sSeq, sIf, exT_eq, sRet_eq, ex1_eq, exI_eq, sSet, sExpr, sFor, cOp1, cOp2, cOpn, cCall, aOf_nil, aOf_cons, aCons, aNil, aStar, seqD, cAnd, cOr, cIf, tNotT, tAndT, tOrT, tBl, tVal, cCon, cVar, lift, R.bind_ok, viewF, viewB, giveF, giveB, ownAt, immB, endF, sPass, tru, EV.iVal, itemsD, EV.iRng1, EV.iRng2, EV.iEnuA, EV.iZip, gNot, bB, bI, bList, cSl, oSome, oNone, dSl, dNeg, dAdd, dBack, gTupN, gLstN, h2]
theorem bNum_s {ca : Ca} {c : Nat} {i : Int} {S : Cells} : bNum ca [some (.cel c), some (.int i), none] S = .ok (.lst [.int (i + 1), .int (i - 1), .bl (decide (i = 1)), .str "1", .non, .int 0, .int (-i)], true) S := by
  have e := Fa.int.dEq (by decide) S i 1
  unfold bNum
  simp [runB, runF, initE, sSeq, sIf, exT_eq, sRet_eq, ex1_eq, exI_eq, sSet, sExpr, sFor, cOp1, cOp2, cOpn, cCall, aOf_nil, aOf_cons, aCons, aNil, aStar, seqD, cAnd, cOr, cIf, tNotT, tAndT, tOrT, tBl, tVal, cCon, cVar, lift, R.bind_ok, viewF, viewB, giveF, giveB, ownAt, immB, endF, sPass, tru, EV.iVal, itemsD, EV.iRng1, EV.iRng2, EV.iEnuA, EV.iZip, gNot, bB, bI, dNeg, dAdd, dSub, dInt, gLstN, e]
theorem bWrd_s {ca : Ca} {c : Nat} {x : Str} {S : Cells} (hx : smp x = true) (hl : (ch x).length ≤ 30) : bWrd ca [some (.cel c), some (.str x), none] S = .ok (.lst [.str (x ++ "a"), .str (cutS x none (some (-1))), .str (Txt.upper x), .str "a", .str "back", .non, .int 0, .lst [.str x]], true) S := by
  have l0 : x.length = (ch x).length := shown_len x
  have l1 : x.length ≤ 5592405 := by omega
  have l2 : (Txt.upper x).length ≤ 16777216 := by rw [shown_len, ch_upper hx, List.length_map]; omega
  have l3 := smp_cp (smp_upper hx)
  have l4 : x.length + ("a" : Str).length ≤ 16777216 := by
    have : ("a" : Str).length = 1 := by decide +kernel
    omega
  unfold bWrd
  simp [runB, runF, initE, sSeq, sIf, exT_eq, sRet_eq, ex1_eq, exI_eq, sSet, sExpr, sFor, cOp1, cOp2, cOpn, cCall, aOf_nil, aOf_cons, aCons, aNil, aStar, seqD, cAnd, cOr, cIf, tNotT, tAndT, tOrT, tBl, tVal, cCon, cVar, lift, R.bind_ok, viewF, viewB, giveF, giveB, ownAt, immB, endF, sPass, tru, EV.iVal, itemsD, EV.iRng1, EV.iRng2, EV.iEnuA, EV.iZip, gNot, bB, bI, dNeg, dAdd, cSl, oSome, oNone, dSl, gUpper, gLstN, l1, l2, l3, l4]
end
end EV

namespace EV
open PySem PySem.Spec PyProof.Rows L2
theorem op2_ok {g : Cells → D → D → Option B} {f h : SE} {ca : Ca} {ρ : En} {S S1 S2 : Cells} {a b r : B} (hf : f ca ρ S = .ok a S1) (hh : h ca ρ S1 = .ok b S2) (hg : g S2 a.1 b.1 = some r) : cOp2 g f h ca ρ S = .ok r S2 := by
  unfold cOp2
  rw [hf, R.bind_ok, hh, R.bind_ok, hg]
  rfl
theorem op1_ok {g : Cells → D → Option B} {f : SE} {ca : Ca} {ρ : En} {S S1 : Cells} {a r : B} (hf : f ca ρ S = .ok a S1) (hg : g S1 a.1 = some r) : cOp1 g f ca ρ S = .ok r S1 := by
  unfold cOp1
  rw [hf, R.bind_ok, hg]
  rfl
/-- plain, good -/
structure Pl (w k : Nat) (d : D) : Prop extends Gd w k d where
  pl : pln d = true
theorem Pl.any {w k : Nat} {d : D} (h : Pl w k d) : Any w k d := ⟨h.toGd, fun ds e => by subst e; exact h.pl⟩
theorem Pl.mono {w k w' k' : Nat} {d : D} (h : Pl w k d) (hw : w ≤ w') (hk : k ≤ k') : Pl w' k' d := ⟨h.toGd.mono hw hk, h.pl⟩
theorem bn_pl {w k : Nat} {d : D} (h : bnB w k d = true) : Pl w k d := ⟨bn_gd h, bn_pln h⟩
theorem pl_tup {ds : List D} {w k : Nat} (hl : ds.length ≤ w) (h : ∀ d, d ∈ ds → Pl w k d) : Pl w (k + 1) (.tup ds) := ⟨gd_tup hl fun d hd => (h d hd).toGd, by simp only [pln]; exact plnL_all fun d hd => (h d hd).pl⟩
section
variable {tab : Fk → Option Bd} {pg : Pg}
theorem any_sub {ds es : List D} {w k : Nat} (h : ∀ d, d ∈ ds → bnB w k d = true) (hs : ∀ d, d ∈ es → d ∈ ds) (hl : es.length ≤ w + 1) : Pl (w + 1) (k + 1) (.tup es) :=
  pl_tup hl fun d hd => (bn_pl (h d (hs d hd))).mono (by omega) (Nat.le_refl _)
/-- a tuple's list of what it may become -/
theorem bTup_any {ds : List D} {w k : Nat} (hw : ds.length ≤ w) (h : ∀ d, d ∈ ds → bnB w k d = true) {e : D} (he : e ∈ [.lst ds, .tup (cutD ds (some 1) none), .tup (cutD ds none (some (-1))), .tup (ds ++ cutD ds (some (-1)) none), .tup ds.reverse, .tup [], .non]) : Pl (w + 1) (k + 1) e := by
  have l1 := cut_len ds (some 1) none
  have l2 := cut_len ds none (some (-1))
  have l3 := cut_last ds
  simp only [List.mem_cons, List.not_mem_nil, or_false] at he
  rcases he with rfl | rfl | rfl | rfl | rfl | rfl | rfl
  · exact ⟨gd_lst (by omega) fun d hd => (bn_gd (h d hd)).mono (by omega) (Nat.le_refl _), by simp only [pln]; exact plnL_all fun d hd => bn_pln (h d hd)⟩
  · exact any_sub h (fun d hd => cutD_sub hd) (by omega)
  · exact any_sub h (fun d hd => cutD_sub hd) (by omega)
  · refine any_sub h (fun d hd => ?_) (by rw [List.length_append]; omega)
    rcases List.mem_append.mp hd with hd | hd
    · exact hd
    · exact cutD_sub hd
  · exact any_sub h (fun d hd => List.mem_reverse.mp hd) (by rw [List.length_reverse]; omega)
  · exact any_sub h (fun d hd => by cases hd) (by simp)
  · exact ⟨gd_non, rfl⟩
theorem odd_ret {i : Nat} (ho : tab ("_law_odd", none) = some (.fn ⟨1, 2, oddForm⟩)) (dr : Drw tab pg) (hi : 3 ≤ i) {c : Nat} {d : D} {L : Shp} {M : Int} {S : Cells} (p : Ps c L M S) (hM : M < 2 ^ 39) :
    ∃ e S', sRet [0] (cCall ("_law_odd", none) [] (aOf [cVar 0])) (caF tab i) (bE c d) S = .ok (.rt (e, false)) S' ∧ e ∈ oddL ∧ Ps c L (M + 1) S' := by
  obtain ⟨e, S', q1, q2, q3⟩ := odd_s dr ho hi p hM
  refine ⟨e, S', ?_, q2, q3⟩
  rw [sRet_eq]
  have e1 : cCall ("_law_odd", none) [] (aOf [cVar 0]) (caF tab i) (viewF [0] 0 (bE c d)) S = caF tab i ("_law_odd", none) [.cel c] S := rfl
  rw [e1, q1]
  rfl
theorem bt1_tup (dr : Drw tab pg) {i : Nat} (hi : 1 ≤ i) {c : Nat} {d0 : D} {ds : List D} (hp : plnL (d0 :: ds) = true) {L : Shp} {M : Int} {S : Cells} (p : Ps c L M S) (hM : M < 2 ^ 39) :
    ∃ b S', bt1 (caF tab i) [some (.cel c), some (.tup (d0 :: ds)), none] S = .ok b S' ∧ Ps c L (M + 1) S' := by
  obtain ⟨r, S1, t1, t2, t3, t4⟩ := dr.tk i hi c L M 7 S p (by omega) (by decide) (by decide)
  refine ⟨decide (r > 0), S1, ?_, t4⟩
  have e1 : dNe S (.tup (d0 :: ds)) (.tup []) = some (.bl true, false) := by
    unfold dNe
    have h1 : pln (.tup (d0 :: ds)) = true := by simp only [pln]; exact hp
    have h2 : flatD (.tup []) = true := rfl
    have h3 : eqS (.tup (d0 :: ds)) (.tup []) = false := by simp [eqS, toP, toPL, PyData.eqv, PyData.eqvAll]
    rw [h1, h2, h3]
    simp [pln, plnL, bB]
  have e2 : dGt S1 (.int r) (.int 0) = some (.bl (decide (r > 0)), false) := by
    simp [dGt, dCmp, bB]
  unfold bt1 tAndT
  rw [is_t (a := "tuple") rfl]
  show (((tBl (cOp2 dNe (cVar 1) (cOpn gTupN (aOf [])))) (caF tab i) [some (.cel c), some (.tup (d0 :: ds)), none] S).bind _) = _
  have e3 : tBl (cOp2 dNe (cVar 1) (cOpn gTupN (aOf []))) (caF tab i) [some (.cel c), some (.tup (d0 :: ds)), none] S = .ok true S := by
    simp [runB, runF, initE, sSeq, sIf, exT_eq, sRet_eq, ex1_eq, exI_eq, sSet, sExpr, sFor, cOp1, cOp2, cOpn, cCall, aOf_nil, aOf_cons, aCons, aNil, aStar, seqD, cAnd, cOr, cIf, tNotT, tAndT, tOrT, tBl, tVal, cCon, cVar, lift, R.bind_ok, viewF, viewB, giveF, giveB, ownAt, immB, endF, sPass, tru, EV.iVal, itemsD, EV.iRng1, EV.iRng2, EV.iEnuA, EV.iZip, gNot, bB, bI, gTupN, e1]
  rw [e3, R.bind_ok]
  have e4 : cCall ("_law_take", none) [] (aOf [cVar 0, cCon (.int 7)]) (caF tab i) [some (.cel c), some (.tup (d0 :: ds)), none] S = .ok (.int r, false) S1 := t1
  simp [runB, runF, initE, sSeq, sIf, exT_eq, sRet_eq, ex1_eq, exI_eq, sSet, sExpr, sFor, cOp1, cOp2, cOpn, cCall, aOf_nil, aOf_cons, aCons, aNil, aStar, seqD, cAnd, cOr, cIf, tNotT, tAndT, tOrT, tBl, tVal, cCon, cVar, lift, R.bind_ok, viewF, viewB, giveF, giveB, ownAt, immB, endF, sPass, tru, EV.iVal, itemsD, EV.iRng1, EV.iRng2, EV.iEnuA, EV.iZip, gNot, bB, bI, e2] at e4 ⊢
  simp [e4, e2, R.bind_ok, lift, tru]
theorem bd_s (dr : Drw tab pg) {i : Nat} (hi : 1 ≤ i) {c : Nat} {ds : List D} (h0 : 0 < ds.length) (h1 : ds.length ≤ 1000) {L : Shp} {M : Int} {S : Cells} (p : Ps c L M S) {M' : Int} (hM : M + 1 < M') (hM2 : M' < 2 ^ 38) {x' : D → D → Prop} {cost : Int} (hc : 0 ≤ cost)
    (rec : ∀ d, d ∈ ds → ∀ (M : Int) (S : Cells), Ps c L M S → M < M' → ∃ e S', caF tab i ("_law_bent", none) [.cel c, d] S = .ok (e, false) S' ∧ x' d e ∧ Ps c L (M + cost) S') :
    ∃ a d e S', sSeq (bd1 pg) bd2 (caF tab i) (bE c (.tup ds)) S = .ok (.rt (.tup (ds.take a ++ e :: ds.drop (a + 1)), false)) S' ∧ d ∈ ds ∧ x' d e ∧ Ps c L (M + 1 + cost) S' := by
  obtain ⟨r, S1, t1, t2, t3, t4⟩ := dr.tk i hi c L M (ds.length : Int) S p (by omega) (by omega) (by omega)
  obtain ⟨a, ea⟩ : ∃ a : Nat, r = a := ⟨r.toNat, by omega⟩
  subst ea
  have ha : a < ds.length := by omega
  obtain ⟨e, S2, q1, q2, q3⟩ := rec ds[a] (List.getElem_mem ha) (M + 1) S1 t4 (by omega)
  refine ⟨a, ds[a], e, S2, ?_, List.getElem_mem ha, q2, q3⟩
  have e1 : bd1 pg (caF tab i) (bE c (.tup ds)) S = .ok (.nx [some (.cel c, false), some (.tup ds, false), some (.int a, false)]) S1 := by
    unfold bd1 sSet
    rw [ex1_eq]
    have vw : viewF [0, 1] 0 (bE c (.tup ds)) = [some (.cel c), some (.tup ds), none] := rfl
    rw [vw]
    have hl : cLen pg (cVar 1) (caF tab i) [some (.cel c), some (.tup ds), none] S = .ok (.int ds.length, false) S := cLen_tup rfl
    have f : cCall ("_law_take", none) [] (aOf [cVar 0, cLen pg (cVar 1)]) (caF tab i) [some (.cel c), some (.tup ds), none] S = .ok (.int a, false) S1 := by
      have ev : cVar 0 (caF tab i) [some (D.cel c), some (.tup ds), none] S = .ok (.cel c, false) S := rfl
      unfold cCall
      rw [aOf_cons, ev, R.bind_ok, aOf_cons, hl, R.bind_ok, aOf_nil, R.bind_ok, R.bind_ok, R.bind_ok]
      exact t1
    rw [f]
    rfl
  rw [sSeq_nx e1]
  unfold bd2
  rw [sRet_eq]
  have vw : viewF [1, 2, 0] 0 [some (D.cel c, false), some (.tup ds, false), some (.int a, false)] = [some (.cel c), some (.tup ds), some (.int a)] := rfl
  rw [vw]
  have hix : dIx S1 (.tup ds) (.int (a : Nat)) = some (ds[a], false) := by
    have : atI ds (a : Int) = some ds[a] := by
      unfold atI ixN
      rw [if_pos (by omega), if_pos (by omega)]
      simp [ha]
    simp [dIx, ixD, this]
  have c1 : cutD ds none (some (a : Int)) = ds.take a := cut_to ds a (by omega)
  have c2 : cutD ds (some ((a : Int) + 1)) none = ds.drop (a + 1) := cut_from ds (a + 1) (by omega)
  have f1 : cSl (cVar 1) oNone (oSome (cVar 2)) (caF tab i) [some (.cel c), some (.tup ds), some (.int a)] S1 = .ok (.tup (ds.take a), false) S1 := by
    simp [runB, runF, initE, sSeq, sIf, exT_eq, sRet_eq, ex1_eq, exI_eq, sSet, sExpr, sFor, cOp1, cOp2, cOpn, cCall, aOf_nil, aOf_cons, aCons, aNil, aStar, seqD, cAnd, cOr, cIf, tNotT, tAndT, tOrT, tBl, tVal, cCon, cVar, lift, R.bind_ok, viewF, viewB, giveF, giveB, ownAt, immB, endF, sPass, tru, EV.iVal, itemsD, EV.iRng1, EV.iRng2, EV.iEnuA, EV.iZip, gNot, bB, bI, cSl, oSome, oNone, dSl, c1]
  have f2 : cOpn gTupN (aOf [cCall ("_law_bent", none) [] (aOf [cVar 0, cOp2 dIx (cVar 1) (cVar 2)])]) (caF tab i) [some (.cel c), some (.tup ds), some (.int a)] S1 = .ok (.tup [e], false) S2 := by
    simp [runB, runF, initE, sSeq, sIf, exT_eq, sRet_eq, ex1_eq, exI_eq, sSet, sExpr, sFor, cOp1, cOp2, cOpn, cCall, aOf_nil, aOf_cons, aCons, aNil, aStar, seqD, cAnd, cOr, cIf, tNotT, tAndT, tOrT, tBl, tVal, cCon, cVar, lift, R.bind_ok, viewF, viewB, giveF, giveB, ownAt, immB, endF, sPass, tru, EV.iVal, itemsD, EV.iRng1, EV.iRng2, EV.iEnuA, EV.iZip, gNot, bB, bI, hix, q1, gTupN]
  have f3 : cSl (cVar 1) (oSome (cOp2 dAdd (cVar 2) (cCon (.int 1)))) oNone (caF tab i) [some (.cel c), some (.tup ds), some (.int a)] S2 = .ok (.tup (ds.drop (a + 1)), false) S2 := by
    simp [runB, runF, initE, sSeq, sIf, exT_eq, sRet_eq, ex1_eq, exI_eq, sSet, sExpr, sFor, cOp1, cOp2, cOpn, cCall, aOf_nil, aOf_cons, aCons, aNil, aStar, seqD, cAnd, cOr, cIf, tNotT, tAndT, tOrT, tBl, tVal, cCon, cVar, lift, R.bind_ok, viewF, viewB, giveF, giveB, ownAt, immB, endF, sPass, tru, EV.iVal, itemsD, EV.iRng1, EV.iRng2, EV.iEnuA, EV.iZip, gNot, bB, bI, cSl, oSome, oNone, dSl, dAdd, c2]
  have z1 : (ds.take a).length + [e].length ≤ 16777216 := by rw [List.length_take]; simp; omega
  have z2 : (ds.take a ++ [e]).length + (ds.drop (a + 1)).length ≤ 16777216 := by rw [List.length_append, List.length_take, List.length_drop]; simp; omega
  have g1 : dAdd S2 (.tup (ds.take a)) (.tup [e]) = some (.tup (ds.take a ++ [e]), false) := by simp only [dAdd, if_pos z1]
  have g2 : dAdd S2 (.tup (ds.take a ++ [e])) (.tup (ds.drop (a + 1))) = some (.tup (ds.take a ++ [e] ++ ds.drop (a + 1)), false) := by simp only [dAdd, if_pos z2]
  rw [op2_ok (op2_ok f1 f2 g1) f3 g2]
  simp [R.bind]
/-- what is no tuple -/
theorem bent_leaf_s (dr : Drw tab pg) (ho : tab ("_law_odd", none) = some (.fn ⟨1, 2, oddForm⟩)) {w k : Nat} (hw : 2 ≤ w) {i : Nat} (hi : 3 ≤ i) {c : Nat} {L : Shp} {d : D} (hd : bnB w k d = true) (hn : ∀ ds, d ≠ .tup ds) {M : Int} {S : Cells} (p : Ps c L M S) (hM : M < 2 ^ 38) :
    ∃ e S', bentForm pg (caF tab i) (bE c d) S = .ok (.rt (e, false)) S' ∧ Pl (w + 1) (k + 2) e ∧ Ps c L (M + 1) S' := by
  cases d with
  | tup ds => exact absurd rfl (hn ds)
  | non => cases k <;> simp [bnB] at hd
  | bl b =>
    have hf : bBol (caF tab i) [some (.cel c), some (.bl b), none] S = .ok (.lst [.bl (!b), .int (if b then 1 else 0), .non], true) S := by
      cases b <;> rfl
    obtain ⟨e, S', q1, q2, q3⟩ := bIs_yes dr (i := i) (by omega) (d := .bl b) (T := "bool") (a := "bool") rfl (by decide) hf (by simp) (by simp) p (by omega)
    refine ⟨e, S', bent_leaf (S' := S) (a := "bool") rfl (by decide) (sSeq_rt q1), ?_, q3⟩
    simp only [List.mem_cons, List.not_mem_nil, or_false] at q2
    rcases q2 with rfl | rfl | rfl
    · exact ⟨gd_bl, rfl⟩
    · exact ⟨gd_int (by cases b <;> decide), rfl⟩
    · exact ⟨gd_non, rfl⟩
  | int n =>
    have hn' : n.natAbs < 10 ^ 9 := by cases k <;> simpa [bnB] using hd
    obtain ⟨e, S', q1, q2, q3⟩ := bIs_yes dr (i := i) (by omega) (d := .int n) (T := "int") (a := "int") rfl (by decide) bNum_s (by simp) (by simp) p (by omega)
    refine ⟨e, S', bent_leaf (S' := S) (a := "int") rfl (by decide) ?_, ?_, q3⟩
    · rw [sSeq_nx (bIs_no (a := "int") rfl (by decide)), sSeq_rt q1]
    simp only [List.mem_cons, List.not_mem_nil, or_false] at q2
    rcases q2 with rfl | rfl | rfl | rfl | rfl | rfl | rfl
    · exact ⟨gd_int (by omega), rfl⟩
    · exact ⟨gd_int (by omega), rfl⟩
    · exact ⟨gd_bl, rfl⟩
    · exact ⟨gd_str (by decide +kernel) (by decide +kernel), rfl⟩
    · exact ⟨gd_non, rfl⟩
    · exact ⟨gd_int (by decide), rfl⟩
    · exact ⟨gd_int (by omega), rfl⟩
  | str x =>
    have hx : smp x = true ∧ (ch x).length ≤ 30 := by cases k <;> simpa [bnB] using hd
    obtain ⟨e, S', q1, q2, q3⟩ := bIs_yes dr (i := i) (by omega) (d := .str x) (T := "str") (a := "str") rfl (by decide) (bWrd_s hx.1 hx.2) (by simp) (by simp) p (by omega)
    refine ⟨e, S', bent_leaf (S' := S) (a := "str") rfl (by decide) ?_, ?_, q3⟩
    · rw [sSeq_nx (bIs_no (a := "str") rfl (by decide)), sSeq_nx (bIs_no (a := "str") rfl (by decide)), sSeq_rt q1]
    simp only [List.mem_cons, List.not_mem_nil, or_false] at q2
    rcases q2 with rfl | rfl | rfl | rfl | rfl | rfl | rfl | rfl
    · exact ⟨gd_str (smp_app hx.1 (by decide +kernel)) (by
        rw [ch_app, List.length_append]
        have : (ch ("a" : Str)).length = 1 := by decide +kernel
        omega), rfl⟩
    · exact ⟨gd_str (smp_cut hx.1 _ _) (by
        rw [ch_cut]
        have := cut_len (ch x) none (some (-1))
        omega), rfl⟩
    · exact ⟨gd_str (smp_upper hx.1) (by rw [ch_upper hx.1, List.length_map]; omega), rfl⟩
    · exact ⟨gd_str (by decide +kernel) (by decide +kernel), rfl⟩
    · exact ⟨gd_str (by decide +kernel) (by decide +kernel), rfl⟩
    · exact ⟨gd_non, rfl⟩
    · exact ⟨gd_int (by decide), rfl⟩
    · refine ⟨gd_lst (k := k + 1) (by simp) fun d hd => ?_, rfl⟩
      simp only [List.mem_cons, List.not_mem_nil, or_false] at hd
      subst hd
      exact gd_str hx.1 (by omega)
  | lst _ => cases k <;> simp [bnB] at hd
  | dic _ _ => cases k <;> simp [bnB] at hd
  | ins _ _ _ => cases k <;> simp [bnB] at hd
  | exc _ _ => cases k <;> simp [bnB] at hd
  | cel _ => cases k <;> simp [bnB] at hd
  | scr _ => cases k <;> simp [bnB] at hd
theorem bent_s (dr : Drw tab pg) (ho : tab ("_law_odd", none) = some (.fn ⟨1, 2, oddForm⟩)) (hb : tab ("_law_bent", none) = some (.fn ⟨2, 3, bentForm pg⟩)) {w : Nat} (hw : 2 ≤ w) (hw2 : w ≤ 900) {c : Nat} {L : Shp} :
    ∀ (k : Nat) {j : Nat} (hj : k + 4 ≤ j) (d : D), bnB w k d = true → ∀ (M : Int) (S : Cells), Ps c L M S → M < 2 ^ 36 - 2 * k → ∃ e S', caF tab j ("_law_bent", none) [.cel c, d] S = .ok (e, false) S' ∧ Pl (w + 1) (k + 2) e ∧ Ps c L (M + (2 * k + 2)) S' := by
  intro k
  induction k with
  | zero =>
    intro j hj d hd M S p hM
    obtain ⟨i, rfl, hi⟩ := fu (n := 3) (j := j) (by omega)
    rw [ca_eq hb, runB_fn (show [D.cel c, d].length = 2 from rfl)]
    show ∃ e S', ((bentForm pg (caF tab i) (bE c d) S).bind endF) = _ ∧ _
    obtain ⟨e, S', q1, q2, q3⟩ := bent_leaf_s (w := w) (k := 0) dr ho hw hi hd (fun ds z => by subst z; simp [bnB] at hd) p (by omega)
    exact ⟨e, S', by rw [q1]; rfl, q2, q3.mono (by omega)⟩
  | succ k ih =>
    intro j hj d hd M S p hM
    obtain ⟨i, rfl, hi⟩ := fu (n := k + 4) (j := j) (by omega)
    rw [ca_eq hb, runB_fn (show [D.cel c, d].length = 2 from rfl)]
    show ∃ e S', ((bentForm pg (caF tab i) (bE c d) S).bind endF) = _ ∧ _
    by_cases ht : ∃ ds, d = .tup ds
    · obtain ⟨ds, rfl⟩ := ht
      simp only [bnB, Bool.and_eq_true, decide_eq_true_eq, List.all_eq_true] at hd
      have last : ∀ (M' : Int) (S' : Cells), Ps c L M' S' → M' ≤ M + 1 → ∃ e S2, sSeq (bIs "tuple" bTup) (sSeq (bIs "bool" bBol) (sSeq (bIs "int" bNum) (sSeq (bIs "str" bWrd) (sRet [0] (cCall ("_law_odd", none) [] (aOf [cVar 0])))))) (caF tab i) (bE c (.tup ds)) S' = .ok (.rt (e, false)) S2 ∧ Pl (w + 1) (k + 1 + 2) e ∧ Ps c L (M' + 1) S2 := fun M' S' p' hM' => by
        obtain ⟨e, S2, q1, q2, q3⟩ := bIs_yes dr (i := i) (by omega) (d := .tup ds) (T := "tuple") (a := "tuple") rfl (by decide) (bTup_s (by omega)) (by simp) (by simp) p' (by omega)
        exact ⟨e, S2, sSeq_rt q1, (bTup_any hd.1 hd.2 q2).mono (Nat.le_refl _) (by omega), q3⟩
      unfold bentForm
      cases ds with
      | nil =>
        obtain ⟨e, S2, q1, q2, q3⟩ := last M S p (by omega)
        have e0 : bt1 (caF tab i) (viewF [1, 0] 0 (bE c (.tup []))) S = .ok false S := rfl
        refine ⟨e, S2, ?_, q2, q3.mono (by omega)⟩
        rw [sSeq_nx (sIf_no e0), q1]
        rfl
      | cons d0 ds =>
        obtain ⟨b, S1, f1, f2⟩ := bt1_tup dr (i := i) (by omega) (d0 := d0) (ds := ds) (plnL_all fun x hx => bn_pln (hd.2 x hx)) p (by omega)
        cases b with
        | false =>
          obtain ⟨e, S2, q1, q2, q3⟩ := last (M + 1) S1 f2 (by omega)
          refine ⟨e, S2, ?_, q2, q3.mono (by omega)⟩
          rw [sSeq_nx (sIf_no (show bt1 (caF tab i) (viewF [1, 0] 0 (bE c (.tup (d0 :: ds)))) S = .ok false S1 from f1)), q1]
          rfl
        | true =>
          obtain ⟨a, x, e, S2, q1, q2, q3, q4⟩ := bd_s (pg := pg) dr (i := i) (by omega) (ds := d0 :: ds) (by simp) (by omega) f2 (by omega) (M' := 2 ^ 36 - 2 * k) (by omega) (x' := fun d e => Pl (w + 1) (k + 2) e) (cost := 2 * k + 2) (by omega) (fun d hd' M' S' p' hM' => ih hi d (hd.2 d hd') M' S' p' (by omega))
          refine ⟨_, S2, by rw [sSeq_rt (by rw [sIf_yes (show bt1 (caF tab i) (viewF [1, 0] 0 (bE c (.tup (d0 :: ds)))) S = .ok true S1 from f1)]; exact q1)]; rfl, ?_, q4.mono (by omega)⟩
          refine pl_tup (k := k + 2) ?_ fun y hy => ?_
          · have l1 := List.length_take_le a (d0 :: ds)
            have l2 : ((d0 :: ds).drop (a + 1)).length = (d0 :: ds).length - (a + 1) := List.length_drop
            have l3 : ((d0 :: ds).take a).length = min a (d0 :: ds).length := List.length_take
            rw [List.length_append, List.length_cons, l2, l3]
            have := hd.1
            omega
          · rcases List.mem_append.mp hy with hy | hy
            · exact (bn_pl (hd.2 y (List.mem_of_mem_take hy))).mono (by omega) (by omega)
            · rcases List.mem_cons.mp hy with rfl | hy
              · exact q3
              · exact (bn_pl (hd.2 y (List.mem_of_mem_drop hy))).mono (by omega) (by omega)
    · obtain ⟨e, S', q1, q2, q3⟩ := bent_leaf_s (w := w) (k := k + 1) dr ho hw (i := i) (by omega) hd (fun ds z => ht ⟨ds, z⟩) p (by omega)
      exact ⟨e, S', by rw [q1]; rfl, q2, q3.mono (by omega)⟩
end
end EV

namespace EV
open PySem PySem.Spec PyProof.Rows L2
/-! ### loops that may return -/
theorem forL_find {α : Type} {p : Pt} {body : SEn → Cells → R Fl} {S : Cells} (enc : α → D) (I : SEn → Prop) (stop : α → Option B) : ∀ (xs : List α) (ρ : SEn), I ρ →
    (∀ x, x ∈ xs → ∀ ρ, I ρ → ∃ ρ1, bindS p (enc x) ρ = some ρ1 ∧ ((∃ b, stop x = some b ∧ body ρ1 S = .ok (.rt b) S) ∨ (stop x = none ∧ ∃ ρ2, body ρ1 S = .ok (.nx ρ2) S ∧ I ρ2))) →
    (∃ b, xs.findSome? stop = some b ∧ forL p body (xs.map enc) ρ S = .ok (.rt b) S) ∨ (xs.findSome? stop = none ∧ ∃ ρ', forL p body (xs.map enc) ρ S = .ok (.nx ρ') S ∧ I ρ')
  | [], ρ, h, _ => .inr ⟨rfl, ρ, rfl, h⟩
  | x :: xs, ρ, h, hb => by
    obtain ⟨ρ1, b1, b2⟩ := hb x (List.mem_cons_self ..) ρ h
    rcases b2 with ⟨b, e1, e2⟩ | ⟨e1, ρ2, e2, e3⟩
    · refine .inl ⟨b, by simp [e1], ?_⟩
      simp only [List.map_cons, forL, b1, e2, R.bind_ok]
    · rcases forL_find enc I stop xs ρ2 e3 (fun y hy => hb y (List.mem_cons_of_mem _ hy)) with ⟨b, q1, q2⟩ | ⟨q1, ρ', q2, q3⟩
      · refine .inl ⟨b, by simp [e1, q1], ?_⟩
        simp only [List.map_cons, forL, b1, e2, R.bind_ok]
        exact q2
      · refine .inr ⟨by simp [e1, q1], ρ', ?_, q3⟩
        simp only [List.map_cons, forL, b1, e2, R.bind_ok]
        exact q2
/-- numbered -/
def idx {α : Type} (k : Nat) : List α → List (Nat × α)
  | [] => []
  | x :: xs => (k, x) :: idx (k + 1) xs
def encI {α : Type} (enc : α → D) (p : Nat × α) : D := .tup [.int (p.1 : Nat), enc p.2]
theorem enum_idx {α : Type} (enc : α → D) : ∀ (xs : List α) (k : Nat), enumG k (xs.map enc) = (idx k xs).map (encI enc)
  | [], k => rfl
  | x :: xs, k => by simp only [List.map_cons, enumG, idx, encI, enum_idx enc xs (k + 1)]
theorem mem_idx {α : Type} : ∀ {xs : List α} {k i : Nat} {x : α}, (i, x) ∈ idx k xs ↔ k ≤ i ∧ xs[i - k]? = some x
  | [], k, i, x => by simp [idx]
  | y :: xs, k, i, x => by
    simp only [idx, List.mem_cons, Prod.mk.injEq]
    rw [mem_idx (xs := xs)]
    constructor
    · rintro (⟨rfl, rfl⟩ | ⟨h1, h2⟩)
      · simp
      · have e : i - k = (i - (k + 1)) + 1 := by omega
        exact ⟨by omega, by rw [e]; simpa using h2⟩
    · rintro ⟨h1, h2⟩
      by_cases h : i = k
      · subst h
        simp at h2
        exact .inl ⟨rfl, h2.symm⟩
      · have e : i - k = (i - (k + 1)) + 1 := by omega
        rw [e] at h2
        exact .inr ⟨by omega, by simpa using h2⟩
theorem mem_idx0 {α : Type} {xs : List α} {i : Nat} {x : α} : (i, x) ∈ idx 0 xs ↔ xs[i]? = some x := by
  rw [mem_idx]
  simp
theorem idx_len {α : Type} : ∀ (xs : List α) (k : Nat), (idx k xs).length = xs.length
  | [], k => rfl
  | x :: xs, k => by simp [idx, idx_len xs]
/-! combinators, step by step -/
theorem tbl_ok {f : SE} {ca : Ca} {ρ : En} {S S' : Cells} {b : Bool} {o : Bool} (h : f ca ρ S = .ok (.bl b, o) S') : tBl f ca ρ S = .ok b S' := by
  simp [tBl, h, R.bind_ok, tru]
theorem tval_ok {f : SE} {ca : Ca} {ρ : En} {S S' : Cells} {b : Bool} {o : Bool} (h : f ca ρ S = .ok (.bl b, o) S') : tVal f ca ρ S = .ok b S' := by
  simp [tVal, h, R.bind_ok, tru]
theorem tnot_ok {t : ST} {ca : Ca} {ρ : En} {S S' : Cells} {b : Bool} (h : t ca ρ S = .ok b S') : tNotT t ca ρ S = .ok (!b) S' := by
  simp [tNotT, h, R.bind_ok]
theorem tor_t {f g : ST} {ca : Ca} {ρ : En} {S S' : Cells} (h : f ca ρ S = .ok true S') : tOrT f g ca ρ S = .ok true S' := by
  simp [tOrT, h, R.bind_ok]
theorem tor_f {f g : ST} {ca : Ca} {ρ : En} {S S' : Cells} (h : f ca ρ S = .ok false S') : tOrT f g ca ρ S = g ca ρ S' := by
  simp [tOrT, h, R.bind_ok]
theorem tand_t {f g : ST} {ca : Ca} {ρ : En} {S S' : Cells} (h : f ca ρ S = .ok true S') : tAndT f g ca ρ S = g ca ρ S' := by
  simp [tAndT, h, R.bind_ok]
theorem tand_f {f g : ST} {ca : Ca} {ρ : En} {S S' : Cells} (h : f ca ρ S = .ok false S') : tAndT f g ca ρ S = .ok false S' := by
  simp [tAndT, h, R.bind_ok]
theorem cand_t {f g : SE} {ca : Ca} {ρ : En} {S S' : Cells} {o : Bool} (h : f ca ρ S = .ok (.bl true, o) S') : cAnd f g ca ρ S = g ca ρ S' := by
  simp [cAnd, h, R.bind_ok, tru]
theorem cand_f {f g : SE} {ca : Ca} {ρ : En} {S S' : Cells} {o : Bool} (h : f ca ρ S = .ok (.bl false, o) S') : cAnd f g ca ρ S = .ok (.bl false, false) S' := by
  cases o <;> simp [cAnd, h, R.bind_ok, tru]
theorem call1_ok {k : Fk} {f : SE} {ca : Ca} {ρ : En} {S S1 : Cells} {a : B} (h : f ca ρ S = .ok a S1) : cCall k [] (aOf [f]) ca ρ S = ca k [a.1] S1 := by
  simp [cCall, aOf_cons, aOf_nil, h, R.bind_ok]
theorem call2_ok {k : Fk} {f g : SE} {ca : Ca} {ρ : En} {S S1 S2 : Cells} {a b : B} (h : f ca ρ S = .ok a S1) (h2 : g ca ρ S1 = .ok b S2) : cCall k [] (aOf [f, g]) ca ρ S = ca k [a.1, b.1] S2 := by
  simp [cCall, aOf_cons, aOf_nil, h, h2, R.bind_ok]
theorem call3_ok {k : Fk} {f g e : SE} {ca : Ca} {ρ : En} {S S1 S2 S3 : Cells} {a b d : B} (h : f ca ρ S = .ok a S1) (h2 : g ca ρ S1 = .ok b S2) (h3 : e ca ρ S2 = .ok d S3) : cCall k [] (aOf [f, g, e]) ca ρ S = ca k [a.1, b.1, d.1] S3 := by
  simp [cCall, aOf_cons, aOf_nil, h, h2, h3, R.bind_ok]
end EV
namespace EV
open PySem PySem.Spec PyProof.Rows L2
/-- turns whose values are drawn -/
theorem comp_any {α : Type} {it : SI} {vs : List Nat} {pt : Pt} {e : SE} {ca : Ca} {ρ : En} {S0 S : Cells} (enc : α → D) (xs : List α) (V : D → Prop) (P : Nat → Cells → Prop) (hi : it ca ρ S0 = .ok (xs.map enc) S) (h0 : P 0 S)
    (h : ∀ (k : Nat) x S, k < xs.length → x ∈ xs → P k S → ∃ ρ' d o S', bindP pt (enc x) (wipeE ρ vs) = some ρ' ∧ e ca ρ' S = .ok (d, o) S' ∧ V d ∧ P (k + 1) S') :
    ∃ ds S', cComp it vs pt tYesT e ca ρ S0 = .ok (.lst ds, true) S' ∧ (∀ d, d ∈ ds → V d) ∧ ds.length = xs.length ∧ P xs.length S' := by
  have key : ∀ (ys : List α) (k : Nat) (acc : List D) (S : Cells), (∀ x, x ∈ ys → x ∈ xs) → k + ys.length = xs.length → P k S → (∀ d, d ∈ acc → V d) → acc.length = k → ∃ ds S', compL (fun d => bindP pt d (wipeE ρ vs)) (tYesT ca) (e ca) (ys.map enc) acc S = .ok ds S' ∧ (∀ d, d ∈ ds → V d) ∧ ds.length = xs.length ∧ P xs.length S' := by
    intro ys
    induction ys with
    | nil =>
      intro k acc S _ hk hP hV hl
      have : k = xs.length := by simpa using hk
      exact ⟨acc, S, by simp [compL], hV, by omega, this ▸ hP⟩
    | cons x ys ih =>
      intro k acc S hm hk hP hV hl
      simp at hk
      obtain ⟨ρ', d, o, S1, b1, b2, b3, b4⟩ := h k x S (by omega) (hm x (List.mem_cons_self ..)) hP
      obtain ⟨ds, S2, q1, q2⟩ := ih (k + 1) (acc ++ [d]) S1 (fun y hy => hm y (List.mem_cons_of_mem _ hy)) (by omega) b4 (fun z hz => by
        rcases List.mem_append.mp hz with hz | hz
        · exact hV z hz
        · simp at hz
          subst hz
          exact b3) (by simp [hl])
      refine ⟨ds, S2, ?_, q2⟩
      simp only [List.map_cons]
      unfold compL
      simp only [b1]
      show ((e ca ρ' S).noX.bind fun v S => compL _ (tYesT ca) (e ca) (ys.map enc) (acc ++ [v.1]) S) = _
      rw [b2]
      show compL _ (tYesT ca) (e ca) (ys.map enc) (acc ++ [d]) S1 = _
      rw [q1]
  obtain ⟨ds, S2, q1, q2⟩ := key xs 0 [] S (fun _ h => h) (by simp) h0 (fun d hd => by cases hd) rfl
  refine ⟨ds, S2, ?_, q2⟩
  unfold cComp
  rw [hi]
  show (compL (fun d => bindP pt d (wipeE ρ vs)) (tYesT ca) (e ca) (xs.map enc) [] S).bind _ = _
  rw [q1]
  simp [R.bind]
theorem opn1_ok {g : Cells → List D → Option B} {f : SE} {ca : Ca} {ρ : En} {S S1 : Cells} {a r : B} (hf : f ca ρ S = .ok a S1) (hg : g S1 [a.1] = some r) : cOpn g (aOf [f]) ca ρ S = .ok r S1 := by
  simp [cOpn, aOf_cons, aOf_nil, hf, R.bind_ok, hg, lift]
theorem rng_ok {i : Nat} (h : i < 1000) : rngOk (i : Int) = true := by
  unfold rngOk
  simp only [Bool.and_eq_true, decide_eq_true_eq]
  omega
theorem iRng1_n {f : SE} {ca : Ca} {ρ : En} {S S' : Cells} {n : Nat} {o : Bool} (h : f ca ρ S = .ok (.int (n : Nat), o) S') (hn : n < 1000) : EV.iRng1 f ca ρ S = .ok ((List.range n).map fun i : Nat => D.int (i : Nat)) S' := by
  rw [iRng1_ok h (rng_ok hn) (by omega), rngD_map, Int.toNat_natCast]
theorem add_lst (S : Cells) {xs ys : List D} (h : xs.length + ys.length ≤ 100000) : dAdd S (.lst xs) (.lst ys) = some (.lst (xs ++ ys), true) := by
  have : xs.length + ys.length ≤ 16777216 := by omega
  simp only [dAdd, if_pos this]
end EV

namespace Lk01
open PySem PySem.Spec PyProof.Rows L2 EV
abbrev prog : Program := PySem.Challenge.pw_lotkeepers_k01_whole_circles_and_lots
def top (i : Nat) : Stmt := prog.main.body.getD i (.Pass ⟨0, 0, 0, 0⟩)
def cbody : Stmt → List Stmt
  | .ClassDef _ _ _ b _ _ _ _ _ _ _ => b
  | _ => []
def mtop (i j : Nat) : Stmt := (cbody (top i)).getD j (.Pass ⟨0, 0, 0, 0⟩)
abbrev dd (x : Str) (i : Nat) (dv : List He.Dv := []) : He.DefD := ⟨(x, none), x, x, defArgs (top i), defBody (top i), defScope (top i), dv, []⟩
abbrev md (c x : Str) (q : Str) (i j : Nat) (dv : List He.Dv := []) : He.DefD := ⟨(c, some x), x, q, defArgs (mtop i j), defBody (mtop i j), defScope (mtop i j), dv, []⟩
def e7 : FnE := { d := dd "is_tuple" 7 [.int 0, .non], N := ["value", "least", "most"], ps := ["value", "least", "most"], cn := ["_law_pot_here"], dfl := [.int 0, .non] }
def e8 : FnE := { d := dd "is_word" 8, N := ["value", "words"], ps := ["value", "words"], cn := ["_law_pot_here"] }
def e9 : FnE := { d := dd "is_name" 9, N := ["value", "sign"], ps := ["value"], cn := ["_law_pot_here"] }
def e10 : FnE := { d := dd "are_unlike" 10, N := ["some", "at", "one"], ps := ["some"], cn := ["_law_pot_here"] }
def e14 : FnE := { d := dd "lot_of" 14, N := ["names", "some", "name"], ps := ["names", "some"], cn := ["_law_pot_here"] }
def e15 : FnE := { d := dd "lots_of" 15, N := ["names", "levels", "found", "size", "later", "lot", "at", "spot"], ps := ["names"], cn := ["_law_pot_here"] }
def e17 : FnE := { d := dd "is_lot" 17, N := ["circle", "value", "name"], ps := ["circle", "value"], cn := ["_law_pot_here"] }
def e18 : FnE := { d := dd "check_lot" 18, N := ["circle", "value"], ps := ["circle", "value"], cn := ["_law_pot_here"] }
def e19 : FnE := { d := dd "lots" 19, N := ["circle"], ps := ["circle"], cn := ["_law_pot_here"] }
def e20 : FnE := { d := dd "both" 20, N := ["circle", "one", "other"], ps := ["circle", "one", "other"], cn := ["_law_pot_here"] }
def e21 : FnE := { d := dd "either" 21, N := ["circle", "one", "other"], ps := ["circle", "one", "other"], cn := ["_law_pot_here"] }
def e23 : FnE := { d := dd "_law_pot" 23, N := ["_law_script", "_law_place", "_law_cell", "_law_own", "_law_small"], ps := ["_law_script", "_law_place"], cn := ["_law_pot_here"] }
def e24 : FnE := { d := dd "_law_take" 24, N := ["_law_pot_here", "_law_upto", "_law_digit", "_law_prime", "_law_mixed"], ps := ["_law_pot_here", "_law_upto"], cn := ["_law_pot_here"] }
def e25 : FnE := { d := dd "_law_of" 25, N := ["_law_pot_here", "_law_some_here"], ps := ["_law_pot_here", "_law_some_here"], cn := ["_law_pot_here"] }
def e26 : FnE := { d := dd "_law_some" 26, N := ["_law_pot_here", "_law_pool", "_law_amount", "_law_rest_here", "_law_found", "_law_lap"], ps := ["_law_pot_here", "_law_pool", "_law_amount"], cn := ["_law_pot_here"] }
def e27 : FnE := { d := dd "_law_cells" 27, N := ["_law_script", "_law_limit"], ps := ["_law_script", "_law_limit"], cn := ["_law_pot_here"] }
def e29 : FnE := { d := dd "_law_odd" 29, N := ["_law_pot_here", "_law_some_here"], ps := ["_law_pot_here"], cn := ["_law_pot_here"] }
def e30 : FnE := { d := dd "_law_bent" 30, N := ["_law_pot_here", "_law_value", "_law_at"], ps := ["_law_pot_here", "_law_value"], cn := ["_law_pot_here"] }
def e31 : FnE := { d := dd "_law_names" 31, N := ["_law_pot_here", "_law_few", "_law_upmost", "_law_pool"], ps := ["_law_pot_here", "_law_few", "_law_upmost"], cn := ["_law_pot_here"] }
def e32 : FnE := { d := dd "_law_lot_of" 32, N := ["_law_names_here", "_law_some_here", "_law_name"], ps := ["_law_names_here", "_law_some_here"], cn := ["_law_pot_here"] }
def e33 : FnE := { d := dd "_law_both" 33, N := ["_law_one", "_law_other", "_law_name"], ps := ["_law_one", "_law_other"], cn := ["_law_pot_here"] }
def e34 : FnE := { d := dd "_law_all_lots" 34, N := ["_law_names_here", "_law_found", "_law_place", "_law_lot", "_law_ranked", "_law_size"], ps := ["_law_names_here"], cn := ["_law_pot_here"] }
def e35 : FnE := { d := dd "_law_is_lot" 35, N := ["_law_names_here", "_law_value", "_law_name"], ps := ["_law_names_here", "_law_value"], cn := ["_law_pot_here"] }
def e36 : FnE := { d := dd "_law_a_lot" 36, N := ["_law_pot_here", "_law_names_here", "_law_few"], ps := ["_law_pot_here", "_law_names_here", "_law_few"], cn := ["_law_pot_here"] }
def e37 : FnE := { d := dd "_law_are_names" 37, N := ["_law_value", "_law_name", "_law_letter"], ps := ["_law_value"], cn := ["_law_pot_here"] }
def e38 : FnE := { d := dd "_law_is_circle_right" 38, N := ["_law_value", "_law_caught", "_law_ring"], ps := ["_law_value"], cn := ["_law_pot_here"] }
def e39 : FnE := { d := dd "_law_are_lots_right" 39, N := ["_law_pot_here", "_law_names_here", "_law_ring", "_law_one", "_law_far", "_law_some_here", "_law_lap", "_law_its"], ps := ["_law_pot_here", "_law_names_here", "_law_ring"], cn := ["_law_pot_here"] }
def e40 : FnE := { d := dd "_law_is_lot_due" 40, N := ["_law_names_here", "_law_ring", "_law_value", "_law_heard_here", "_law_caught"], ps := ["_law_names_here", "_law_ring", "_law_value"], cn := ["_law_pot_here"] }
def e41 : FnE := { d := dd "_law_right" 41, N := ["_law_pot_here", "_law_names_here", "_law_ring", "_law_lot", "_law_far", "_law_near", "_law_word", "_law_lap", "_law_value", "_law_strange", "_law_name", "_law_bad", "_law_caught"], ps := ["_law_pot_here"], cn := ["_law_pot_here"] }
def e42 : FnE := { d := dd "law" 42, N := ["_law_script", "_law_place", "_law_pot_here", "_law_lap"], ps := ["_law_script"], cn := ["_law_pot_here"] }
def es : List FnE := [e7, e8, e9, e10, e14, e15, e17, e18, e19, e20, e21, e23, e24, e25, e26, e27, e29, e30, e31, e32, e33, e34, e35, e36, e37, e38, e39, e40, e41, e42]
def i16 : FnE := { d := md "Circle" "__init__" "Circle.__init__" 16 0, N := ["self", "names", "name"], ps := ["self", "names"], cn := ["_law_pot_here"] }
def m16_2 : FnE := { d := md "Circle" "__len__" "Circle.__len__" 16 2, N := ["self"], ps := ["self"], cn := ["_law_pot_here"] }
def m16_3 : FnE := { d := md "Circle" "__contains__" "Circle.__contains__" 16 3, N := ["self", "value"], ps := ["self", "value"], cn := ["_law_pot_here"] }
def m16_5 : FnE := { d := md "Circle" "__eq__" "Circle.__eq__" 16 5, N := ["self", "other"], ps := ["self", "other"], cn := ["_law_pot_here"] }
def m16_6 : FnE := { d := md "Circle" "lot" "Circle.lot" 16 6, N := ["self", "some", "name"], ps := ["self", "some"], cn := ["_law_pot_here"] }
def m16_7 : FnE := { d := md "Circle" "rest" "Circle.rest" 16 7, N := ["self", "lot", "name"], ps := ["self", "lot"], cn := ["_law_pot_here"] }
def p16_1 : PrD := ⟨"names", "own_names", md "Circle" "names" "Circle.names" 16 1⟩
def c16 : ClE := { c := "Circle", flds := ["own_names"], ps := ["names"], ini := i16, mts := [m16_2, m16_3, m16_5, m16_6, m16_7], props := [p16_1] }
def cs : List ClE := [c16]
def excs : List Str := ["LotError", "BadNames", "BadLot"]
def free : List Str := ["len", "abs", "max", "min", "all", "any", "int", "list", "tuple", "range", "isinstance", "ValueError", "repr", "enumerate", "sorted", "str", "bool", "set", "super"]
def cons : List (Str × D) := [("SIGNS", .str "abcdefghijklmnopqrstuvwxyz"), ("MOST_SIGNS", .int 8), ("FEWEST_KEEPERS", .int 2), ("MOST_KEEPERS", .int 6)]
def pg : Pg := { fns := fnsOf es, cons := cons, blts := free, excs := excs, cls := clsOf cs, mks := ["_law_is_circle_right", "_law_is_lot_due", "_law_right"], hv := (false, false), eqn := ["_law_ring"] }
def hrdD : He.DefD := dd "_law_heard" 28
def more : List He.DefD := [hrdD]
def hd : Hd := { fn := es.map (·.d) ++ more, free := free, excs := excs, cons := cons, file := prog.main.file, ini := iniS (top 1), cls := cs.map hdC, mks := ["_law_is_circle_right", "_law_is_lot_due", "_law_right"] }
theorem c7_ok : okE pg e7 = true := by kernel_rfl
theorem c8_ok : okE pg e8 = true := by kernel_rfl
theorem c9_ok : okE pg e9 = true := by kernel_rfl
theorem c10_ok : okE pg e10 = true := by kernel_rfl
theorem c14_ok : okE pg e14 = true := by kernel_rfl
theorem c15_ok : okE pg e15 = true := by kernel_rfl
theorem c17_ok : okE pg e17 = true := by kernel_rfl
theorem c18_ok : okE pg e18 = true := by kernel_rfl
theorem c19_ok : okE pg e19 = true := by kernel_rfl
theorem c20_ok : okE pg e20 = true := by kernel_rfl
theorem c21_ok : okE pg e21 = true := by kernel_rfl
theorem c23_ok : okE pg e23 = true := by kernel_rfl
theorem c24_ok : okE pg e24 = true := by kernel_rfl
theorem c25_ok : okE pg e25 = true := by kernel_rfl
theorem c26_ok : okE pg e26 = true := by kernel_rfl
theorem c27_ok : okE pg e27 = true := by kernel_rfl
theorem c29_ok : okE pg e29 = true := by kernel_rfl
theorem c30_ok : okE pg e30 = true := by kernel_rfl
theorem c31_ok : okE pg e31 = true := by kernel_rfl
theorem c32_ok : okE pg e32 = true := by kernel_rfl
theorem c33_ok : okE pg e33 = true := by kernel_rfl
theorem c34_ok : okE pg e34 = true := by kernel_rfl
theorem c35_ok : okE pg e35 = true := by kernel_rfl
theorem c36_ok : okE pg e36 = true := by kernel_rfl
theorem c37_ok : okE pg e37 = true := by kernel_rfl
theorem c38_ok : okE pg e38 = true := by kernel_rfl
theorem c39_ok : okE pg e39 = true := by kernel_rfl
theorem c40_ok : okE pg e40 = true := by kernel_rfl
theorem c41_ok : okE pg e41 = true := by kernel_rfl
theorem c42_ok : okE pg e42 = true := by kernel_rfl
theorem b7 : BindE e7 := bindD 2 rfl (fun _ => rfl) (by decide) (fun K H m => by show RepL K H m ([.int 0, .non] : List D) ([.int 0, .non] : List V); simp [RepL, Rep]) (by decide) fun j hj => match j, hj with
    | 0, _ => fun T kV doc pm an cdv ct us its hu hi => match us, its, hu, hi with | [_], [_, _], _, _ => ⟨_, rfl, rfl⟩
    | 1, _ => fun T kV doc pm an cdv ct us its hu hi => match us, its, hu, hi with | [_, _], [_, _], _, _ => ⟨_, rfl, rfl⟩
    | 2, _ => fun T kV doc pm an cdv ct us its hu hi => match us, its, hu, hi with | [_, _, _], [_, _], _, _ => ⟨_, rfl, rfl⟩
    | j + 3, h => absurd h (by omega)
theorem b8 : BindE e8 := bind0 rfl fun K f fd F => F.bindsN fun _ _ _ _ _ _ us hl => match us, hl with | [_, _], _ => rfl
theorem b9 : BindE e9 := bind0 rfl fun K f fd F => F.bindsN fun _ _ _ _ _ _ us hl => match us, hl with | [_], _ => rfl
theorem b10 : BindE e10 := bind0 rfl fun K f fd F => F.bindsN fun _ _ _ _ _ _ us hl => match us, hl with | [_], _ => rfl
theorem b14 : BindE e14 := bind0 rfl fun K f fd F => F.bindsN fun _ _ _ _ _ _ us hl => match us, hl with | [_, _], _ => rfl
theorem b15 : BindE e15 := bind0 rfl fun K f fd F => F.bindsN fun _ _ _ _ _ _ us hl => match us, hl with | [_], _ => rfl
theorem b17 : BindE e17 := bind0 rfl fun K f fd F => F.bindsN fun _ _ _ _ _ _ us hl => match us, hl with | [_, _], _ => rfl
theorem b18 : BindE e18 := bind0 rfl fun K f fd F => F.bindsN fun _ _ _ _ _ _ us hl => match us, hl with | [_, _], _ => rfl
theorem b19 : BindE e19 := bind0 rfl fun K f fd F => F.bindsN fun _ _ _ _ _ _ us hl => match us, hl with | [_], _ => rfl
theorem b20 : BindE e20 := bind0 rfl fun K f fd F => F.bindsN fun _ _ _ _ _ _ us hl => match us, hl with | [_, _, _], _ => rfl
theorem b21 : BindE e21 := bind0 rfl fun K f fd F => F.bindsN fun _ _ _ _ _ _ us hl => match us, hl with | [_, _, _], _ => rfl
theorem b23 : BindE e23 := bind0 rfl fun K f fd F => F.bindsN fun _ _ _ _ _ _ us hl => match us, hl with | [_, _], _ => rfl
theorem b24 : BindE e24 := bind0 rfl fun K f fd F => F.bindsN fun _ _ _ _ _ _ us hl => match us, hl with | [_, _], _ => rfl
theorem b25 : BindE e25 := bind0 rfl fun K f fd F => F.bindsN fun _ _ _ _ _ _ us hl => match us, hl with | [_, _], _ => rfl
theorem b26 : BindE e26 := bind0 rfl fun K f fd F => F.bindsN fun _ _ _ _ _ _ us hl => match us, hl with | [_, _, _], _ => rfl
theorem b27 : BindE e27 := bind0 rfl fun K f fd F => F.bindsN fun _ _ _ _ _ _ us hl => match us, hl with | [_, _], _ => rfl
theorem b29 : BindE e29 := bind0 rfl fun K f fd F => F.bindsN fun _ _ _ _ _ _ us hl => match us, hl with | [_], _ => rfl
theorem b30 : BindE e30 := bind0 rfl fun K f fd F => F.bindsN fun _ _ _ _ _ _ us hl => match us, hl with | [_, _], _ => rfl
theorem b31 : BindE e31 := bind0 rfl fun K f fd F => F.bindsN fun _ _ _ _ _ _ us hl => match us, hl with | [_, _, _], _ => rfl
theorem b32 : BindE e32 := bind0 rfl fun K f fd F => F.bindsN fun _ _ _ _ _ _ us hl => match us, hl with | [_, _], _ => rfl
theorem b33 : BindE e33 := bind0 rfl fun K f fd F => F.bindsN fun _ _ _ _ _ _ us hl => match us, hl with | [_, _], _ => rfl
theorem b34 : BindE e34 := bind0 rfl fun K f fd F => F.bindsN fun _ _ _ _ _ _ us hl => match us, hl with | [_], _ => rfl
theorem b35 : BindE e35 := bind0 rfl fun K f fd F => F.bindsN fun _ _ _ _ _ _ us hl => match us, hl with | [_, _], _ => rfl
theorem b36 : BindE e36 := bind0 rfl fun K f fd F => F.bindsN fun _ _ _ _ _ _ us hl => match us, hl with | [_, _, _], _ => rfl
theorem b37 : BindE e37 := bind0 rfl fun K f fd F => F.bindsN fun _ _ _ _ _ _ us hl => match us, hl with | [_], _ => rfl
theorem b38 : BindE e38 := bind0 rfl fun K f fd F => F.bindsN fun _ _ _ _ _ _ us hl => match us, hl with | [_], _ => rfl
theorem b39 : BindE e39 := bind0 rfl fun K f fd F => F.bindsN fun _ _ _ _ _ _ us hl => match us, hl with | [_, _, _], _ => rfl
theorem b40 : BindE e40 := bind0 rfl fun K f fd F => F.bindsN fun _ _ _ _ _ _ us hl => match us, hl with | [_, _, _], _ => rfl
theorem b41 : BindE e41 := bind0 rfl fun K f fd F => F.bindsN fun _ _ _ _ _ _ us hl => match us, hl with | [_], _ => rfl
theorem b42 : BindE e42 := bind0 rfl fun K f fd F => F.bindsN fun _ _ _ _ _ _ us hl => match us, hl with | [_], _ => rfl
theorem defs : DefsOk pg es := .cons c7_ok b7 (.cons c8_ok b8 (.cons c9_ok b9 (.cons c10_ok b10 (.cons c14_ok b14 (.cons c15_ok b15 (.cons c17_ok b17 (.cons c18_ok b18 (.cons c19_ok b19 (.cons c20_ok b20 (.cons c21_ok b21 (.cons c23_ok b23 (.cons c24_ok b24 (.cons c25_ok b25 (.cons c26_ok b26 (.cons c27_ok b27 (.cons c29_ok b29 (.cons c30_ok b30 (.cons c31_ok b31 (.cons c32_ok b32 (.cons c33_ok b33 (.cons c34_ok b34 (.cons c35_ok b35 (.cons c36_ok b36 (.cons c37_ok b37 (.cons c38_ok b38 (.cons c39_ok b39 (.cons c40_ok b40 (.cons c41_ok b41 (.cons c42_ok b42 (.nil))))))))))))))))))))))))))))))
theorem cl16_ok : okC pg c16 = true := by kernel_rfl
theorem bm16_2 : BindE m16_2 := bind0 rfl fun K f fd F => F.bindsN fun _ _ _ _ _ _ us hl => match us, hl with | [_], _ => rfl
theorem bm16_3 : BindE m16_3 := bind0 rfl fun K f fd F => F.bindsN fun _ _ _ _ _ _ us hl => match us, hl with | [_, _], _ => rfl
theorem bm16_5 : BindE m16_5 := bind0 rfl fun K f fd F => F.bindsN fun _ _ _ _ _ _ us hl => match us, hl with | [_, _], _ => rfl
theorem bm16_6 : BindE m16_6 := bind0 rfl fun K f fd F => F.bindsN fun _ _ _ _ _ _ us hl => match us, hl with | [_, _], _ => rfl
theorem bm16_7 : BindE m16_7 := bind0 rfl fun K f fd F => F.bindsN fun _ _ _ _ _ _ us hl => match us, hl with | [_, _], _ => rfl
theorem clss : ClsOk pg cs where
  ok := fun e he => by
    simp only [cs, List.mem_cons, List.not_mem_nil, or_false] at he
    obtain rfl := he
    exact cl16_ok
  bi := fun e he K f fd F => by
    simp only [cs, List.mem_cons, List.not_mem_nil, or_false] at he
    obtain rfl := he
    exact F.bindsN fun _ _ _ _ _ _ us hl => match us, hl with | [_, _], _ => rfl
  bm := fun e he m hm => by
    simp only [cs, List.mem_cons, List.not_mem_nil, or_false] at he
    obtain rfl := he
    simp only [c16, List.mem_cons, List.not_mem_nil, or_false] at hm
    rcases hm with rfl | rfl | rfl | rfl | rfl
    · exact bm16_2
    · exact bm16_3
    · exact bm16_5
    · exact bm16_6
    · exact bm16_7
  bp := fun e he p hp K f fd F => by
    simp only [cs, List.mem_cons, List.not_mem_nil, or_false] at he
    obtain rfl := he
    simp only [c16, List.mem_cons, List.not_mem_nil, or_false] at hp
    obtain rfl := hp
    exact F.bindsN fun _ _ _ _ _ _ us hl => match us, hl with | [_], _ => rfl
theorem hrd_b : hrdD.body = heardBody pg.hv (hPos hrdD.body) := by kernel_rfl
theorem hrd_s : hrdD.scope = heardScope pg.hv := by kernel_rfl
theorem hrd_bd : ∀ (K : PySem.W.Frag) (f : Addr) (fd : FuncData), FunD K hrdD.name hrdD.qual hrdD.params hrdD.body hrdD.scope (hrdD.dvs K) (hrdD.kws K) f fd → Binds K fd [hAn pg.hv] [] := fun K f fd F => F.bindsN fun _ _ _ _ _ _ us hl => match us, hl with | [_], _ => rfl
theorem hrd_j : hd.fn[30]? = some hrdD := rfl
theorem heard {P : Program} {K : PySem.W.Frag} {mg : Str → Option Value} (A : ∀ (i : Nat) d, hd.fn[i]? = some d → ∃ fd, mg d.name = some (.ref (He.ga K d.name)) ∧ FunD K d.name d.qual d.params d.body d.scope (d.dvs K) (d.kws K) (He.fAd K d.at_) fd) (E : ∀ x, x ∈ pg.excs → EVX.ErrC P K mg x) : HeardF K mg pg.hv := heard_of hrd_j rfl rfl hrd_b hrd_s hrd_bd rfl A rfl E
end Lk01

namespace Lk01
open PySem PySem.Spec PyProof.Rows L2 EV
abbrev tab : Fk → Option Bd := tabOf pg es cs
def f_is_tuple : SS := sRet [0, 1, 2] (cAnd (cOp1 (gIsT "tuple") (cVar 0)) (cAnd (cOp2 dGe (cLen pg (cVar 0)) (cVar 1)) (cOr (cOp2 dIs (cVar 2) (cCon .non)) (cOp2 dLe (cLen pg (cVar 0)) (cVar 2)))))
theorem t_is_tuple : tab ("is_tuple", none) = some (.fn ⟨3, 3, f_is_tuple⟩) := by kernel_rfl
def f_is_word : SS := sRet [0, 1] (cAnd (cOp1 (gIsT "str") (cVar 0)) (cOp2 dIn (cVar 0) (cVar 1)))
theorem t_is_word : tab ("is_word", none) = some (.fn ⟨2, 2, f_is_word⟩) := by kernel_rfl
def f_is_name : SS := sSeq (sIf [0] (tOrT (tNotT (tVal (cOp1 (gIsT "str") (cVar 0)))) (tNotT (tBl (cChain dLe dLe (cCon (.int 1)) (cLen pg (cVar 0)) (cCon (.int 8)))))) (sRet [] (cCon (.bl false))) sPass)
  (sRet [1, 0] (cOpn bAll (aOf [cComp (iVal (cVar 0)) [1] (.nm 1) tYesT (cOp2 dIn (cVar 1) (cCon (.str "abcdefghijklmnopqrstuvwxyz")))])))
theorem t_is_name : tab ("is_name", none) = some (.fn ⟨1, 2, f_is_name⟩) := by kernel_rfl
def f_are_unlike : SS := sRet [2, 0, 1] (cOpn bAll (aOf [cComp (iEnuA (cVar 0)) [1, 2] (.tp [.nm 1, .nm 2]) tYesT (cOp2 dNotIn (cVar 2) (cSl (cVar 0) oNone (oSome (cVar 1))))]))
theorem t_are_unlike : tab ("are_unlike", none) = some (.fn ⟨1, 3, f_are_unlike⟩) := by kernel_rfl
def f_lot_of : SS := sRet [2, 0, 1] (cOpn bTuple (aOf [cComp (iVal (cVar 0)) [2] (.nm 2) (tBl (cOp2 dIn (cVar 2) (cVar 1))) (cVar 2)]))
theorem t_lot_of : tab ("lot_of", none) = some (.fn ⟨2, 3, f_lot_of⟩) := by kernel_rfl
def f_lots_of : SS := sSeq (sPar [1, 2] [([], cOpn gLstN (aOf [cOpn gLstN (aOf [cOpn gTupN (aOf [cOpn gTupN (aOf []), cCon (.int 0)])])])), ([], cOpn gLstN (aOf [cOpn gTupN (aOf [])]))])
  (sSeq (sFor [0] (iRng1 (cLen pg (cVar 0))) (.nm 3) (sSeq (sSet 4 [] (cOpn gLstN (aOf [])))
  (sSeq (sEither (ownLst 1) (sForIx 1 [3] (cVar 3) (.tp [.nm 5, .nm 6]) (sExt 4 [5, 0, 7, 6] (cComp (iRng2 (cVar 6) (cLen pg (cVar 0))) [7] (.nm 7) tYesT (cOpn gTupN (aOf [cOpn gTupN (aStar (cVar 5) (aCons (cOp2 dIx (cVar 0) (cVar 7)) aNil)), cOp2 dAdd (cVar 7) (cCon (.int 1))]))))) (sFor [1, 3] (iVal (cOp2 dIx (cVar 1) (cVar 3))) (.tp [.nm 5, .nm 6]) (sExt 4 [5, 0, 7, 6] (cComp (iRng2 (cVar 6) (cLen pg (cVar 0))) [7] (.nm 7) tYesT (cOpn gTupN (aOf [cOpn gTupN (aStar (cVar 5) (aCons (cOp2 dIx (cVar 0) (cVar 7)) aNil)), cOp2 dAdd (cVar 7) (cCon (.int 1))]))))))
  (sSeq (sApp 1 [4] (cVar 4))
  (sExt 2 [5, 4] (cComp (iVal (cVar 4)) [5, 6] (.tp [.nm 5, .nm 6]) tYesT (cVar 5)))))))
  (sRet [2] (cVar 2)))
theorem t_lots_of : tab ("lots_of", none) = some (.fn ⟨1, 8, f_lots_of⟩) := by kernel_rfl
def f_is_lot : SS := sSeq (sIf [1, 2, 0] (tOrT (tNotT (tVal (cCall ("is_tuple", none) [.int 0, .non] (aOf [cVar 1])))) (tNotT (tVal (cOpn bAll (aOf [cComp (iVal (cVar 1)) [2] (.nm 2) tYesT (cCall ("is_word", none) [] (aOf [cVar 2, cOp1 (gAttr pg "names") (cVar 0)]))]))))) (sRet [] (cCon (.bl false))) sPass)
  (sRet [1, 0] (cOp2 dEq (cVar 1) (cCall ("lot_of", none) [] (aOf [cOp1 (gAttr pg "names") (cVar 0), cVar 1]))))
theorem t_is_lot : tab ("is_lot", none) = some (.fn ⟨2, 3, f_is_lot⟩) := by kernel_rfl
def f_check_lot : SS := sIf [0, 1] (tNotT (tVal (cCall ("is_lot", none) [] (aOf [cVar 0, cVar 1])))) (sRaise [1] "BadLot" (cVar 1)) sPass
theorem t_check_lot : tab ("check_lot", none) = some (.fn ⟨2, 2, f_check_lot⟩) := by kernel_rfl
def f_lots : SS := sRet [0] (cOpn bTuple (aOf [cCall ("lots_of", none) [] (aOf [cOp1 (gAttr pg "names") (cVar 0)])]))
theorem t_lots : tab ("lots", none) = some (.fn ⟨1, 1, f_lots⟩) := by kernel_rfl
def f_both : SS := sSeq (sExpr [0, 1] (cCall ("check_lot", none) [] (aOf [cVar 0, cVar 1])))
  (sSeq (sExpr [0, 2] (cCall ("check_lot", none) [] (aOf [cVar 0, cVar 2])))
  (sRet [1, 2] (cCall ("lot_of", none) [] (aOf [cVar 1, cVar 2]))))
theorem t_both : tab ("both", none) = some (.fn ⟨3, 3, f_both⟩) := by kernel_rfl
def f_either : SS := sSeq (sExpr [0, 1] (cCall ("check_lot", none) [] (aOf [cVar 0, cVar 1])))
  (sSeq (sExpr [0, 2] (cCall ("check_lot", none) [] (aOf [cVar 0, cVar 2])))
  (sRet [0, 1, 2] (cCall ("lot_of", none) [] (aOf [cOp1 (gAttr pg "names") (cVar 0), cOpn gTupN (aStar (cVar 1) (aStar (cVar 2) aNil))]))))
theorem t_either : tab ("either", none) = some (.fn ⟨3, 3, f_either⟩) := by kernel_rfl
def f_law_pot : SS := sSeq (sSet 2 [1, 0] (cIf (tBl (cOp2 dLt (cVar 1) (cLen pg (cVar 0)))) (cOp2 dIx (cVar 0) (cVar 1)) (cOp2 dAdd (cOp2 dMul (cCon (.int 317)) (cVar 1)) (cCon (.int 181)))))
  (sSeq (sSet 3 [2] (cOp2 dMul (cOp2 dMod (cOpn bInt (aOf [cOpn bAbs (aOf [cVar 2])])) (cOp2 dPow (cOp2 dPow (cCon (.int 10)) (cCon (.int 60))) (cCon (.int 5)))) (cOpn bInt (aOf [cOp2 dGe (cOpn bAbs (aOf [cVar 2])) (cOp2 dPow (cCon (.int 10)) (cCon (.int 18)))]))))
  (sSeq (sSet 4 [2] (cOp2 dMod (cOpn bInt (aOf [cVar 2])) (cCon (.int 2305843009213693951))))
  (sRet [3, 4, 1] (cOpn gLstN (aOf [cVar 3, cOp2 dMod (cOpn bInt (aOf [cOp2 dAdd (cOp2 dAdd (cOp2 dMul (cVar 4) (cCon (.int 73409))) (cOp2 dMul (cOp2 dMul (cCon (.int 8032)) (cVar 1)) (cVar 1))) (cCon (.int 239))])) (cCon (.int 2305843009213693921)), cCon (.int 0)])))))
theorem t_law_pot : tab ("_law_pot", none) = some (.fn ⟨2, 5, f_law_pot⟩) := by kernel_rfl
def f_law_take : SS := sSeq (sIf [0] (tBl (cOp2 dGt (cOp2 dIx (cVar 0) (cCon (.int 0))) (cCon (.int 0)))) (sSeq (sSet 2 [0, 1] (cOp2 dMod (cOpn bInt (aOf [cOp2 dIx (cVar 0) (cCon (.int 0))])) (cVar 1)))
  (sSeq (sSetIx 0 [0, 1] (cOp2 dDiv (cOp2 dIx (cVar 0) (cCon (.int 0))) (cVar 1)) [] (cCon (.int 0)))
  (sRet [2] (cVar 2)))) sPass)
  (sSeq (sSetIx 0 [0] (cOp2 dAdd (cOp2 dIx (cVar 0) (cCon (.int 2))) (cCon (.int 1))) [] (cCon (.int 2)))
  (sSeq (sSet 3 [0] (cOp2 dIx (cOpn gLstN (aOf [cCon (.int 2147483647), cCon (.int 2147483629), cCon (.int 2147483587), cCon (.int 2147483579), cCon (.int 2147483563)])) (cOp2 dMod (cOpn bInt (aOf [cOp2 dIx (cVar 0) (cCon (.int 2))])) (cCon (.int 5)))))
  (sSeq (sSet 4 [0, 3] (cOp2 dMod (cOpn bInt (aOf [cOp2 dPow (cOpn bInt (aOf [cOp2 dAdd (cOp2 dAdd (cOp2 dIx (cVar 0) (cCon (.int 1))) (cOp2 dMul (cOp2 dMul (cCon (.int 97843)) (cOp2 dIx (cVar 0) (cCon (.int 2)))) (cOp2 dIx (cVar 0) (cCon (.int 2))))) (cCon (.int 109))])) (cCon (.int 3))])) (cVar 3)))
  (sSeq (sSet 4 [4, 0] (cOp2 dMod (cOpn bInt (aOf [cOp2 dMul (cVar 4) (cOp2 dAdd (cOp2 dMod (cOpn bInt (aOf [cVar 4])) (cCon (.int 10487))) (cOp2 dMul (cCon (.int 181)) (cOp2 dIx (cVar 0) (cCon (.int 2)))))])) (cCon (.int 2305843009213693907))))
  (sRet [4, 1] (cOp2 dMod (cOpn bInt (aOf [cOp2 dDiv (cVar 4) (cCon (.int 173))])) (cVar 1)))))))
theorem t_law_take : tab ("_law_take", none) = some (.fn ⟨2, 5, f_law_take⟩) := by kernel_rfl
def f_law_of : SS := sRet [1, 0] (cOp2 dIx (cVar 1) (cCall ("_law_take", none) [] (aOf [cVar 0, cLen pg (cVar 1)])))
theorem t_law_of : tab ("_law_of", none) = some (.fn ⟨2, 2, f_law_of⟩) := by kernel_rfl
def f_law_some : SS := sSeq (sPar [3, 4] [([1], cOpn bList (aOf [cVar 1])), ([], cOpn gLstN (aOf []))])
  (sSeq (sFor [2] (iRng1 (cVar 2)) (.nm 5) (sAppPop 4 3 [0, 3] (cCall ("_law_take", none) [] (aOf [cVar 0, cLen pg (cVar 3)]))))
  (sRet [4] (cVar 4)))
theorem t_law_some : tab ("_law_some", none) = some (.fn ⟨3, 6, f_law_some⟩) := by kernel_rfl
def f_law_cells : SS := sRet [1, 0] (cOp1 gLR (cOpn bMaxA (aOf [cCon (.int 1), cOpn bMinA (aOf [cVar 1, cLen pg (cVar 0)])])))
theorem t_law_cells : tab ("_law_cells", none) = some (.fn ⟨2, 2, f_law_cells⟩) := by kernel_rfl
def f_law_odd : SS := sSeq (sSet 1 [] (cOpn gLstN (aOf [cCon .non, cCon (.bl true), cCon (.bl false), cCon (.int 0), cCon (.int 1), cOp1 dNeg (cCon (.int 1)), cCon (.int 2), cCon (.int 7), cCon (.str ""), cCon (.str "a"), cCon (.str "x"), cCon (.str "01"), cCon (.str "write"), cOpn gTupN (aOf []), cOpn gLstN (aOf []), cOpn (gDic []) (aNil), cOpn gTupN (aOf [cCon (.int 0)]), cOpn gTupN (aOf [cOpn gTupN (aOf [])]), cOpn gLstN (aOf [cCon (.int 0)]), cOpn (gDic [.inr "a"]) (aOf [cCon (.int 1)])])))
  (sSeq (sSet 1 [1] (cOp2 dAdd (cVar 1) (cOpn gLstN (aOf [cOpn gTupN (aOf [cCon (.str "a")]), cOpn gTupN (aOf [cCon (.str "a"), cCon (.str "b")]), cOpn gTupN (aOf [cOpn gTupN (aOf [cCon (.str "a")])]), cOpn gTupN (aOf [cOpn gTupN (aOf [cCon (.str "a")]), cOpn gTupN (aOf [cCon (.str "b")])]), cOpn gTupN (aOf [cCon (.str "a"), cCon (.int 0)]), cOpn gTupN (aOf [cOpn gTupN (aOf [cCon (.str "a"), cCon (.int 0)])]), cOpn gTupN (aOf [cCon (.str "back"), cOpn gTupN (aOf [])]), cOpn gTupN (aOf [cCon .non]), cCon (.str "A")]))))
  (sRet [0, 1] (cCall ("_law_of", none) [] (aOf [cVar 0, cVar 1]))))
theorem t_law_odd : tab ("_law_odd", none) = some (.fn ⟨1, 2, f_law_odd⟩) := by kernel_rfl
def f_law_bent : SS := sSeq (sIf [1, 0] (tAndT (tVal (cOp1 (gIsT "tuple") (cVar 1))) (tAndT (tBl (cOp2 dNe (cVar 1) (cOpn gTupN (aOf [])))) (tBl (cOp2 dGt (cCall ("_law_take", none) [] (aOf [cVar 0, cCon (.int 7)])) (cCon (.int 0)))))) (sSeq (sSet 2 [0, 1] (cCall ("_law_take", none) [] (aOf [cVar 0, cLen pg (cVar 1)])))
  (sRet [1, 2, 0] (cOp2 dAdd (cOp2 dAdd (cSl (cVar 1) oNone (oSome (cVar 2))) (cOpn gTupN (aOf [cCall ("_law_bent", none) [] (aOf [cVar 0, cOp2 dIx (cVar 1) (cVar 2)])]))) (cSl (cVar 1) (oSome (cOp2 dAdd (cVar 2) (cCon (.int 1)))) oNone)))) sPass)
  (sSeq (sIf [1] (tVal (cOp1 (gIsT "tuple") (cVar 1))) (sRet [0, 1] (cCall ("_law_of", none) [] (aOf [cVar 0, cOpn gLstN (aOf [cOpn bList (aOf [cVar 1]), cSl (cVar 1) (oSome (cCon (.int 1))) oNone, cSl (cVar 1) oNone (oSome (cOp1 dNeg (cCon (.int 1)))), cOp2 dAdd (cVar 1) (cSl (cVar 1) (oSome (cOp1 dNeg (cCon (.int 1)))) oNone), cOp1 dBack (cVar 1), cOpn gTupN (aOf []), cCon .non])]))) sPass)
  (sSeq (sIf [1] (tVal (cOp1 (gIsT "bool") (cVar 1))) (sRet [0, 1] (cCall ("_law_of", none) [] (aOf [cVar 0, cOpn gLstN (aOf [cOp1 gNot (cVar 1), cOpn bInt (aOf [cVar 1]), cCon .non])]))) sPass)
  (sSeq (sIf [1] (tVal (cOp1 (gIsT "int") (cVar 1))) (sRet [0, 1] (cCall ("_law_of", none) [] (aOf [cVar 0, cOpn gLstN (aOf [cOp2 dAdd (cVar 1) (cCon (.int 1)), cOp2 dSub (cVar 1) (cCon (.int 1)), cOp2 dEq (cVar 1) (cCon (.int 1)), cCon (.str "1"), cCon .non, cCon (.int 0), cOp1 dNeg (cVar 1)])]))) sPass)
  (sSeq (sIf [1] (tVal (cOp1 (gIsT "str") (cVar 1))) (sRet [0, 1] (cCall ("_law_of", none) [] (aOf [cVar 0, cOpn gLstN (aOf [cOp2 dAdd (cVar 1) (cCon (.str "a")), cSl (cVar 1) oNone (oSome (cOp1 dNeg (cCon (.int 1)))), cOp1 gUpper (cVar 1), cCon (.str "a"), cCon (.str "back"), cCon .non, cCon (.int 0), cOpn gLstN (aOf [cVar 1])])]))) sPass)
  (sRet [0] (cCall ("_law_odd", none) [] (aOf [cVar 0])))))))
theorem t_law_bent : tab ("_law_bent", none) = some (.fn ⟨2, 3, f_law_bent⟩) := by kernel_rfl
def f_law_names : SS := sSeq (sSet 3 [] (cOpn gLstN (aOf [cCon (.str "a"), cCon (.str "b"), cCon (.str "c"), cCon (.str "d"), cCon (.str "e"), cCon (.str "f"), cCon (.str "keeper"), cCon (.str "parts"), cCon (.str "write"), cCon (.str "ask"), cCon (.str "zzzzzzzz"), cCon (.str "x")])))
  (sRet [0, 3, 1, 2] (cOpn bTuple (aOf [cCall ("_law_some", none) [] (aOf [cVar 0, cVar 3, cOp2 dAdd (cVar 1) (cCall ("_law_take", none) [] (aOf [cVar 0, cOp2 dAdd (cOp2 dSub (cVar 2) (cVar 1)) (cCon (.int 1))]))])])))
theorem t_law_names : tab ("_law_names", none) = some (.fn ⟨3, 4, f_law_names⟩) := by kernel_rfl
def f_law_lot_of : SS := sRet [2, 0, 1] (cOpn bTuple (aOf [cComp (iVal (cVar 0)) [2] (.nm 2) (tBl (cOp2 dIn (cVar 2) (cVar 1))) (cVar 2)]))
theorem t_law_lot_of : tab ("_law_lot_of", none) = some (.fn ⟨2, 3, f_law_lot_of⟩) := by kernel_rfl
def f_law_both : SS := sRet [2, 0, 1] (cOpn bTuple (aOf [cComp (iVal (cVar 0)) [2] (.nm 2) (tBl (cOp2 dIn (cVar 2) (cVar 1))) (cVar 2)]))
theorem t_law_both : tab ("_law_both", none) = some (.fn ⟨2, 3, f_law_both⟩) := by kernel_rfl
def f_law_all_lots : SS := sSeq (sSet 1 [] (cOpn gLstN (aOf [cOpn gTupN (aOf [])])))
  (sSeq (sFor [0] (iRng1 (cLen pg (cVar 0))) (.nm 2) (sSet 1 [1, 3, 2] (cOp2 dAdd (cVar 1) (cComp (iVal (cVar 1)) [3] (.nm 3) tYesT (cOp2 dAdd (cVar 3) (cOpn gTupN (aOf [cVar 2])))))))
  (sSeq (sSet 4 [3, 1] (cOpn bSorted (aOf [cComp (iVal (cVar 1)) [3] (.nm 3) tYesT (cOpn gTupN (aOf [cLen pg (cVar 3), cVar 3]))])))
  (sRet [0, 2, 3, 4] (cComp (iVal (cVar 4)) [5, 3] (.tp [.nm 5, .nm 3]) tYesT (cOpn bTuple (aOf [cComp (iVal (cVar 3)) [2] (.nm 2) tYesT (cOp2 dIx (cVar 0) (cVar 2))]))))))
theorem t_law_all_lots : tab ("_law_all_lots", none) = some (.fn ⟨1, 6, f_law_all_lots⟩) := by kernel_rfl
def f_law_is_lot : SS := sSeq (sIf [1, 2] (tOrT (tNotT (tVal (cOp1 (gIsT "tuple") (cVar 1)))) (tNotT (tVal (cOpn bAll (aOf [cComp (iVal (cVar 1)) [2] (.nm 2) tYesT (cOp1 (gIsT "str") (cVar 2))]))))) (sRet [] (cCon (.bl false))) sPass)
  (sRet [1, 0] (cOp2 dEq (cVar 1) (cCall ("_law_lot_of", none) [] (aOf [cVar 0, cVar 1]))))
theorem t_law_is_lot : tab ("_law_is_lot", none) = some (.fn ⟨2, 3, f_law_is_lot⟩) := by kernel_rfl
def f_law_a_lot : SS := sRet [1, 0, 2] (cCall ("_law_lot_of", none) [] (aOf [cVar 1, cCall ("_law_some", none) [] (aOf [cVar 0, cVar 1, cOp2 dAdd (cVar 2) (cCall ("_law_take", none) [] (aOf [cVar 0, cOp2 dAdd (cOp2 dSub (cLen pg (cVar 1)) (cVar 2)) (cCon (.int 1))]))])]))
theorem t_law_a_lot : tab ("_law_a_lot", none) = some (.fn ⟨3, 3, f_law_a_lot⟩) := by kernel_rfl
def f_law_are_names : SS := sSeq (sIf [0, 1] (tOrT (tNotT (tVal (cOp1 (gIsT "tuple") (cVar 0)))) (tOrT (tNotT (tBl (cChain dLt dLt (cCon (.int 1)) (cLen pg (cVar 0)) (cCon (.int 7))))) (tNotT (tVal (cOpn bAll (aOf [cComp (iVal (cVar 0)) [1] (.nm 1) tYesT (cOp1 (gIsT "str") (cVar 1))])))))) (sRet [] (cCon (.bl false))) sPass)
  (sSeq (sIf [1, 0] (tNotT (tVal (cOpn bAll (aOf [cComp (iVal (cVar 0)) [1] (.nm 1) tYesT (cChain dLt dLt (cCon (.int 0)) (cLen pg (cVar 1)) (cCon (.int 9)))])))) (sRet [] (cCon (.bl false))) sPass)
  (sSeq (sIf [2, 0] (tNotT (tVal (cOpn bAll (aOf [cComp (iVal (cMt "str" gJoin (cCon (.str "")) (aOf [cVar 0]))) [2] (.nm 2) tYesT (cOp2 dIn (cVar 2) (cCon (.str "abcdefghijklmnopqrstuvwxyz")))])))) (sRet [] (cCon (.bl false))) sPass)
  (sRet [0] (cOp2 dEq (cOp1 gSetN (cVar 0)) (cLen pg (cVar 0))))))
theorem t_law_are_names : tab ("_law_are_names", none) = some (.fn ⟨1, 3, f_law_are_names⟩) := by kernel_rfl
def f_law_is_circle_right : SS := sSeq (sAsg (.tp [.nm 1, .nm 2]) [0] (cHeard pg.excs "_law_is_circle_right" (cMake "Circle" (aOf [cVar 0]))))
  (sSeq (sIf [0] (tNotT (tVal (cCall ("_law_are_names", none) [] (aOf [cVar 0])))) (sRet [1, 0] (cAnd (cOp1 (gIsE pg.excs "BadNames") (cVar 1)) (cOp2 dEq (cOp1 gRepr (cOp1 (gAttr pg "value") (cVar 1))) (cOp1 gRepr (cVar 0))))) sPass)
  (sRet [1, 2, 0] (cAnd (cOp2 dIs (cVar 1) (cCon .non)) (cAnd (cOp2 dEq (cOp1 (gAttr pg "names") (cVar 2)) (cVar 0)) (cOp2 dEq (cLen pg (cVar 2)) (cLen pg (cVar 0)))))))
theorem t_law_is_circle_right : tab ("_law_is_circle_right", none) = some (.fn ⟨1, 3, f_law_is_circle_right⟩) := by kernel_rfl
def f_law_are_lots_right : SS := sSeq (sPar [3, 4] [([0, 1], cCall ("_law_a_lot", none) [] (aOf [cVar 0, cVar 1, cCon (.int 0)])), ([0, 1], cCall ("_law_a_lot", none) [] (aOf [cVar 0, cVar 1, cCon (.int 0)]))])
  (sSeq (sSet 5 [0, 1] (cOpn bTuple (aOf [cComp (iRng1 (cCall ("_law_take", none) [] (aOf [cVar 0, cCon (.int 8)]))) [6] (.nm 6) tYesT (cCall ("_law_of", none) [] (aOf [cVar 0, cVar 1]))])))
  (sSeq (sIf [2, 5, 1] (tBl (cOp2 dNe (cMeth pg "lot" 1 (cVar 2) (aOf [cVar 5])) (cCall ("_law_lot_of", none) [] (aOf [cVar 1, cVar 5])))) (sRet [] (cCon (.bl false))) sPass)
  (sSeq (sIf [2, 3, 7, 1] (tBl (cOp2 dNe (cMeth pg "rest" 1 (cVar 2) (aOf [cVar 3])) (cOpn bTuple (aOf [cComp (iVal (cVar 1)) [7] (.nm 7) (tBl (cOp2 dNotIn (cVar 7) (cVar 3))) (cVar 7)])))) (sRet [] (cCon (.bl false))) sPass)
  (sRet [2, 3, 4, 1] (cOp2 dEq (cOpn gTupN (aOf [cCall ("both", none) [] (aOf [cVar 2, cVar 3, cVar 4]), cCall ("either", none) [] (aOf [cVar 2, cVar 3, cVar 4])])) (cOpn gTupN (aOf [cCall ("_law_both", none) [] (aOf [cVar 3, cVar 4]), cCall ("_law_lot_of", none) [] (aOf [cVar 1, cOp2 dAdd (cVar 3) (cVar 4)])])))))))
theorem t_law_are_lots_right : tab ("_law_are_lots_right", none) = some (.fn ⟨3, 8, f_law_are_lots_right⟩) := by kernel_rfl
def f_law_is_lot_due : SS := sSeq (sSet 3 [1, 2] (cOpn gLstN (aOf [cOp2 dIx (cHeard pg.excs "_law_is_lot_due" (cMeth pg "rest" 1 (cVar 1) (aOf [cVar 2]))) (cCon (.int 0))])))
  (sSeq (sApp 3 [1, 2] (cOp2 dIx (cHeard pg.excs "_law_is_lot_due" (cCall ("both", none) [] (aOf [cVar 1, cVar 2, cOpn gTupN (aOf [])]))) (cCon (.int 0))))
  (sSeq (sApp 3 [1, 2] (cOp2 dIx (cHeard pg.excs "_law_is_lot_due" (cCall ("either", none) [] (aOf [cVar 1, cOpn gTupN (aOf []), cVar 2]))) (cCon (.int 0))))
  (sSeq (sIf [0, 2] (tVal (cCall ("_law_is_lot", none) [] (aOf [cVar 0, cVar 2]))) (sRet [3] (cOp2 dEq (cVar 3) (cOpn gLstN (aOf [cCon .non, cCon .non, cCon .non])))) sPass)
  (sRet [4, 2, 3] (cOpn bAll (aOf [cComp (iVal (cVar 3)) [4] (.nm 4) tYesT (cAnd (cOp1 (gIsE pg.excs "BadLot") (cVar 4)) (cOp2 dEq (cOp1 gRepr (cOp1 (gAttr pg "value") (cVar 4))) (cOp1 gRepr (cVar 2))))]))))))
theorem t_law_is_lot_due : tab ("_law_is_lot_due", none) = some (.fn ⟨3, 5, f_law_is_lot_due⟩) := by kernel_rfl
def f_law_right : SS := sSeq (sSet 1 [0] (cCall ("_law_names", none) [] (aOf [cVar 0, cCon (.int 2), cCon (.int 6)])))
  (sSeq (sPar [2, 3] [([1], cMake "Circle" (aOf [cVar 1])), ([0, 1], cCall ("_law_a_lot", none) [] (aOf [cVar 0, cVar 1, cCon (.int 1)]))])
  (sSeq (sIf [2, 1] (tBl (cOp2 dNe (cOp1 gRepr (cOpn gTupN (aOf [cOp1 (gAttr pg "names") (cVar 2), cLen pg (cVar 2), cCall ("lots", none) [] (aOf [cVar 2])]))) (cOp1 gRepr (cOpn gTupN (aOf [cVar 1, cLen pg (cVar 1), cOpn bTuple (aOf [cCall ("_law_all_lots", none) [] (aOf [cVar 1])])]))))) (sRet [] (cCon (.bl false))) sPass)
  (sSeq (sFor [1] (iVal (cOpn gTupN (aOf [cVar 1, cOp1 dBack (cVar 1), cOp2 dAdd (cSl (cVar 1) (oSome (cCon (.int 1))) oNone) (cSl (cVar 1) oNone (oSome (cCon (.int 1)))), cSl (cVar 1) oNone (oSome (cCon (.int 2)))]))) (.nm 4) (sIf [2, 4, 1] (tOrT (tBl (cOp2 dNe (cOwn (eqR pg false) (cVar 2) (cMake "Circle" (aOf [cVar 4]))) (cOp2 dEq (cVar 1) (cVar 4)))) (tBl (cOp2 dEq (cOwn (eqR pg true) (cVar 2) (cMake "Circle" (aOf [cVar 4]))) (cOwn (eqR pg false) (cVar 2) (cMake "Circle" (aOf [cVar 4])))))) (sRet [] (cCon (.bl false))) sPass))
  (sSeq (sSet 5 [1] (cOpn gLstN (aOf [cSl (cVar 1) oNone (oSome (cCon (.int 1))), cOp2 dAdd (cVar 1) (cSl (cVar 1) oNone (oSome (cCon (.int 1)))), cOp2 dAdd (cVar 1) (cOpn gTupN (aOf [cCon (.str "q")])), cOpn bList (aOf [cVar 1]), cOp2 dAdd (cSl (cVar 1) oNone (oSome (cOp1 dNeg (cCon (.int 1))))) (cOpn gTupN (aOf [cCon (.str "A")])), cOpn gTupN (aOf [])])))
  (sSeq (sExt 5 [1, 6, 0] (cOp2 dAdd (cComp (iVal (cOpn gTupN (aOf [cCon (.str "toolonger"), cCon (.str ""), cCon (.str "a1"), cCon (.str "a b")]))) [6] (.nm 6) tYesT (cOp2 dAdd (cSl (cVar 1) oNone (oSome (cOp1 dNeg (cCon (.int 1))))) (cOpn gTupN (aOf [cVar 6])))) (cOpn gLstN (aOf [cCall ("_law_odd", none) [] (aOf [cVar 0]), cCon .non]))))
  (sSeq (sExt 5 [0, 1] (cComp (iRng1 (cCon (.int 3))) [7] (.nm 7) tYesT (cCall ("_law_bent", none) [] (aOf [cVar 0, cVar 1]))))
  (sSeq (sIf [8, 5, 1] (tNotT (tVal (cOpn bAll (aOf [cComp (iVal (cOp2 dAdd (cVar 5) (cOpn gLstN (aOf [cVar 1, cSl (cVar 1) oNone (oSome (cCon (.int 2)))])))) [8] (.nm 8) tYesT (cCall ("_law_is_circle_right", none) [] (aOf [cVar 8]))])))) (sRet [] (cCon (.bl false))) sPass)
  (sSeq (sSet 9 [1, 3, 0] (cOpn gTupN (aOf [cVar 1, cCon .non, cCon (.int 0), cVar 3, cCall ("_law_odd", none) [] (aOf [cVar 0])])))
  (sSeq (sIf [2, 8, 9, 10, 1] (tOrT (tVal (cOpn bAny (aOf [cComp (iVal (cVar 9)) [8] (.nm 8) tYesT (cOwn (eqR pg false) (cVar 2) (cVar 8))]))) (tOrT (tNotT (tVal (cOpn bAll (aOf [cComp (iVal (cVar 1)) [10] (.nm 10) tYesT (cOwn (inR pg false) (cVar 10) (cVar 2))])))) (tBl (cOwn (inR pg false) (cCon (.str "nobody")) (cVar 2))))) (sRet [] (cCon (.bl false))) sPass)
  (sSeq (sSet 11 [3, 0] (cOpn gLstN (aOf [cOp1 dBack (cVar 3), cOpn bList (aOf [cVar 3]), cOp2 dAdd (cVar 3) (cSl (cVar 3) (oSome (cOp1 dNeg (cCon (.int 1)))) oNone), cOp2 dAdd (cVar 3) (cOpn gTupN (aOf [cCon (.str "nobody")])), cOp2 dIx (cVar 3) (cCon (.int 0)), cCon .non, cOpn gTupN (aOf [cCon .non]), cCall ("_law_odd", none) [] (aOf [cVar 0])])))
  (sSeq (sExt 11 [0, 3] (cComp (iRng1 (cCon (.int 3))) [7] (.nm 7) tYesT (cCall ("_law_bent", none) [] (aOf [cVar 0, cVar 3]))))
  (sSeq (sIf [1, 2, 8, 11, 3] (tNotT (tVal (cOpn bAll (aOf [cComp (iVal (cOp2 dAdd (cVar 11) (cOpn gLstN (aOf [cVar 3, cOpn gTupN (aOf []), cVar 1])))) [8] (.nm 8) tYesT (cCall ("_law_is_lot_due", none) [] (aOf [cVar 1, cVar 2, cVar 8]))])))) (sRet [] (cCon (.bl false))) sPass)
  (sSeq (sFor [3] (iVal (cOpn gTupN (aOf [cOpn bList (aOf [cVar 3]), cOp2 dAdd (cVar 3) (cOpn gTupN (aOf [cCon (.str "nobody")])), cOp2 dAdd (cVar 3) (cOpn gTupN (aOf [cCon (.int 0)])), cCon .non, cOp2 dIx (cVar 3) (cCon (.int 0))]))) (.nm 8) (sSeq (sSet 12 [2, 8] (cOp2 dIx (cHeard pg.excs "_law_right" (cMeth pg "lot" 1 (cVar 2) (aOf [cVar 8]))) (cCon (.int 0))))
  (sIf [12, 8] (tOrT (tNotT (tVal (cOp1 (gIsE pg.excs "BadNames") (cVar 12)))) (tBl (cOp2 dNe (cOp1 gRepr (cOp1 (gAttr pg "value") (cVar 12))) (cOp1 gRepr (cVar 8))))) (sRet [] (cCon (.bl false))) sPass)))
  (sRet [0, 1, 2] (cOpn bAll (aOf [cComp (iRng1 (cCon (.int 6))) [7] (.nm 7) tYesT (cCall ("_law_are_lots_right", none) [] (aOf [cVar 0, cVar 1, cVar 2]))]))))))))))))))))
theorem t_law_right : tab ("_law_right", none) = some (.fn ⟨1, 13, f_law_right⟩) := by kernel_rfl
def f_law : SS := sSeq (sFor [0] (iVal (cCall ("_law_cells", none) [] (aOf [cVar 0, cCon (.int 4)]))) (.nm 1) (sSeq (sSetC 2 [0, 1] (cCall ("_law_pot", none) [] (aOf [cVar 0, cVar 1])))
  (sIf [2] (tNotT (tVal (cOpn bAll (aOf [cComp (iRng1 (cCon (.int 3))) [3] (.nm 3) tYesT (cCall ("_law_right", none) [] (aOf [cVar 2]))])))) (sRet [] (cCon (.bl false))) sPass)))
  (sRet [] (cCon (.bl true)))
theorem t_law : tab ("law", none) = some (.fn ⟨1, 4, f_law⟩) := by kernel_rfl
end Lk01

namespace Lk01
open PySem PySem.Spec PyProof.Rows L2 EV
theorem fu {j n : Nat} (h : n + 1 ≤ j) : ∃ i, j = i + 1 ∧ n ≤ i := ⟨j - 1, by omega, by omega⟩
def le (xs ys : List Str) : Bool := xs.all fun x => decide (x ∈ ys)
theorem is_tuple_n {j : Nat} (hj : 1 ≤ j) (ds : List D) (l : Int) (S : Cells) : caF tab j ("is_tuple", none) [.tup ds, .int l, .non] S = .ok (.bl (decide (l ≤ ds.length)), false) S := by
  obtain ⟨i, rfl, hi⟩ := fu hj
  rw [ca_eq t_is_tuple]
  by_cases h : l ≤ (ds.length : Int) <;> simp [runB, runF, initE, sSeq, sIf, exT_eq, sRet_eq, ex1_eq, exI_eq, sSet, sExpr, sFor, cOp1, cOp2, cOpn, cCall, aOf_nil, aOf_cons, aCons, aNil, aStar, seqD, cAnd, cOr, cIf, tNotT, tAndT, tOrT, tBl, tVal, cCon, cVar, lift, R.bind_ok, viewF, viewB, giveF, giveB, ownAt, immB, endF, sPass, tru, EV.iVal, itemsD, EV.iRng1, EV.iRng2, EV.iEnuA, EV.iZip, gNot, bB, bI, f_is_tuple, gIsT, tyD, tyB, cLen, mtOk, bLen, lenD, dGe, dCmp, dIs, isD, h]
theorem is_tuple_m {j : Nat} (hj : 1 ≤ j) (ds : List D) (l m : Int) (S : Cells) : caF tab j ("is_tuple", none) [.tup ds, .int l, .int m] S = .ok (.bl (decide (l ≤ ds.length) && decide ((ds.length : Int) ≤ m)), false) S := by
  obtain ⟨i, rfl, hi⟩ := fu hj
  rw [ca_eq t_is_tuple]
  by_cases h : l ≤ (ds.length : Int) <;> simp [runB, runF, initE, sSeq, sIf, exT_eq, sRet_eq, ex1_eq, exI_eq, sSet, sExpr, sFor, cOp1, cOp2, cOpn, cCall, aOf_nil, aOf_cons, aCons, aNil, aStar, seqD, cAnd, cOr, cIf, tNotT, tAndT, tOrT, tBl, tVal, cCon, cVar, lift, R.bind_ok, viewF, viewB, giveF, giveB, ownAt, immB, endF, sPass, tru, EV.iVal, itemsD, EV.iRng1, EV.iRng2, EV.iEnuA, EV.iZip, gNot, bB, bI, f_is_tuple, gIsT, tyD, tyB, cLen, mtOk, bLen, lenD, dGe, dLe, dCmp, dIs, isD, h]
theorem is_word_s {j : Nat} (hj : 1 ≤ j) (x : Str) (ys : List Str) (S : Cells) : caF tab j ("is_word", none) [.str x, nS ys] S = .ok (.bl (decide (x ∈ ys)), false) S := by
  obtain ⟨i, rfl, hi⟩ := fu hj
  rw [ca_eq t_is_word]
  simp [runB, runF, initE, sSeq, sIf, exT_eq, sRet_eq, ex1_eq, exI_eq, sSet, sExpr, sFor, cOp1, cOp2, cOpn, cCall, aOf_nil, aOf_cons, aCons, aNil, aStar, seqD, cAnd, cOr, cIf, tNotT, tAndT, tOrT, tBl, tVal, cCon, cVar, lift, R.bind_ok, viewF, viewB, giveF, giveB, ownAt, immB, endF, sPass, tru, EV.iVal, itemsD, EV.iRng1, EV.iRng2, EV.iEnuA, EV.iZip, gNot, bB, bI, f_is_word, gIsT, tyD, tyB, nS, fS.inT (Nat.zero_le _)]
theorem lot_of_s {j : Nat} (hj : 1 ≤ j) (ns xs : List Str) (S : Cells) : caF tab j ("lot_of", none) [nS ns, nS xs] S = .ok (nS (ns.filter fun x => decide (x ∈ xs)), false) S := by
  obtain ⟨i, rfl, hi⟩ := fu hj
  rw [ca_eq t_lot_of]
  simp [runB, runF, initE, sSeq, sIf, exT_eq, sRet_eq, ex1_eq, exI_eq, sSet, sExpr, sFor, cOp1, cOp2, cOpn, cCall, aOf_nil, aOf_cons, aCons, aNil, aStar, seqD, cAnd, cOr, cIf, tNotT, tAndT, tOrT, tBl, tVal, cCon, cVar, lift, R.bind_ok, viewF, viewB, giveF, giveB, ownAt, immB, endF, sPass, tru, EV.iVal, itemsD, EV.iRng1, EV.iRng2, EV.iEnuA, EV.iZip, gNot, bB, bI, f_lot_of]
  rw [comp_e .str ns (fun x => decide (x ∈ xs)) .str]
  · simp [runB, runF, initE, sSeq, sIf, exT_eq, sRet_eq, ex1_eq, exI_eq, sSet, sExpr, sFor, cOp1, cOp2, cOpn, cCall, aOf_nil, aOf_cons, aCons, aNil, aStar, seqD, cAnd, cOr, cIf, tNotT, tAndT, tOrT, tBl, tVal, cCon, cVar, lift, R.bind_ok, viewF, viewB, giveF, giveB, ownAt, immB, endF, sPass, tru, EV.iVal, itemsD, EV.iRng1, EV.iRng2, EV.iEnuA, EV.iZip, gNot, bB, bI, bTuple, nS]
  · rfl
  · exact fun x hx => ⟨_, rfl, by simp [runB, runF, initE, sSeq, sIf, exT_eq, sRet_eq, ex1_eq, exI_eq, sSet, sExpr, sFor, cOp1, cOp2, cOpn, cCall, aOf_nil, aOf_cons, aCons, aNil, aStar, seqD, cAnd, cOr, cIf, tNotT, tAndT, tOrT, tBl, tVal, cCon, cVar, lift, R.bind_ok, viewF, viewB, giveF, giveB, ownAt, immB, endF, sPass, tru, EV.iVal, itemsD, EV.iRng1, EV.iRng2, EV.iEnuA, EV.iZip, gNot, bB, bI, wipeE, nS, fS.inT (Nat.zero_le _)], fun _ => ⟨false, rfl⟩⟩
theorem law_lot_of_s {j : Nat} (hj : 1 ≤ j) (ns xs : List Str) (S : Cells) : caF tab j ("_law_lot_of", none) [nS ns, nS xs] S = .ok (nS (ns.filter fun x => decide (x ∈ xs)), false) S := by
  obtain ⟨i, rfl, hi⟩ := fu hj
  rw [ca_eq t_law_lot_of]
  simp [runB, runF, initE, sSeq, sIf, exT_eq, sRet_eq, ex1_eq, exI_eq, sSet, sExpr, sFor, cOp1, cOp2, cOpn, cCall, aOf_nil, aOf_cons, aCons, aNil, aStar, seqD, cAnd, cOr, cIf, tNotT, tAndT, tOrT, tBl, tVal, cCon, cVar, lift, R.bind_ok, viewF, viewB, giveF, giveB, ownAt, immB, endF, sPass, tru, EV.iVal, itemsD, EV.iRng1, EV.iRng2, EV.iEnuA, EV.iZip, gNot, bB, bI, f_law_lot_of]
  rw [comp_e .str ns (fun x => decide (x ∈ xs)) .str]
  · simp [runB, runF, initE, sSeq, sIf, exT_eq, sRet_eq, ex1_eq, exI_eq, sSet, sExpr, sFor, cOp1, cOp2, cOpn, cCall, aOf_nil, aOf_cons, aCons, aNil, aStar, seqD, cAnd, cOr, cIf, tNotT, tAndT, tOrT, tBl, tVal, cCon, cVar, lift, R.bind_ok, viewF, viewB, giveF, giveB, ownAt, immB, endF, sPass, tru, EV.iVal, itemsD, EV.iRng1, EV.iRng2, EV.iEnuA, EV.iZip, gNot, bB, bI, bTuple, nS]
  · rfl
  · exact fun x hx => ⟨_, rfl, by simp [runB, runF, initE, sSeq, sIf, exT_eq, sRet_eq, ex1_eq, exI_eq, sSet, sExpr, sFor, cOp1, cOp2, cOpn, cCall, aOf_nil, aOf_cons, aCons, aNil, aStar, seqD, cAnd, cOr, cIf, tNotT, tAndT, tOrT, tBl, tVal, cCon, cVar, lift, R.bind_ok, viewF, viewB, giveF, giveB, ownAt, immB, endF, sPass, tru, EV.iVal, itemsD, EV.iRng1, EV.iRng2, EV.iEnuA, EV.iZip, gNot, bB, bI, wipeE, nS, fS.inT (Nat.zero_le _)], fun _ => ⟨false, rfl⟩⟩
/-- the same of a list of names -/
theorem law_lot_of_l {j : Nat} (hj : 1 ≤ j) (ns xs : List Str) (S : Cells) : caF tab j ("_law_lot_of", none) [nS ns, .lst (xs.map .str)] S = .ok (nS (ns.filter fun x => decide (x ∈ xs)), false) S := by
  obtain ⟨i, rfl, hi⟩ := fu hj
  rw [ca_eq t_law_lot_of]
  simp [runB, runF, initE, sSeq, sIf, exT_eq, sRet_eq, ex1_eq, exI_eq, sSet, sExpr, sFor, cOp1, cOp2, cOpn, cCall, aOf_nil, aOf_cons, aCons, aNil, aStar, seqD, cAnd, cOr, cIf, tNotT, tAndT, tOrT, tBl, tVal, cCon, cVar, lift, R.bind_ok, viewF, viewB, giveF, giveB, ownAt, immB, endF, sPass, tru, EV.iVal, itemsD, EV.iRng1, EV.iRng2, EV.iEnuA, EV.iZip, gNot, bB, bI, f_law_lot_of]
  rw [comp_e .str ns (fun x => decide (x ∈ xs)) .str]
  · simp [runB, runF, initE, sSeq, sIf, exT_eq, sRet_eq, ex1_eq, exI_eq, sSet, sExpr, sFor, cOp1, cOp2, cOpn, cCall, aOf_nil, aOf_cons, aCons, aNil, aStar, seqD, cAnd, cOr, cIf, tNotT, tAndT, tOrT, tBl, tVal, cCon, cVar, lift, R.bind_ok, viewF, viewB, giveF, giveB, ownAt, immB, endF, sPass, tru, EV.iVal, itemsD, EV.iRng1, EV.iRng2, EV.iEnuA, EV.iZip, gNot, bB, bI, bTuple, nS]
  · rfl
  · exact fun x hx => ⟨_, rfl, by simp [runB, runF, initE, sSeq, sIf, exT_eq, sRet_eq, ex1_eq, exI_eq, sSet, sExpr, sFor, cOp1, cOp2, cOpn, cCall, aOf_nil, aOf_cons, aCons, aNil, aStar, seqD, cAnd, cOr, cIf, tNotT, tAndT, tOrT, tBl, tVal, cCon, cVar, lift, R.bind_ok, viewF, viewB, giveF, giveB, ownAt, immB, endF, sPass, tru, EV.iVal, itemsD, EV.iRng1, EV.iRng2, EV.iEnuA, EV.iZip, gNot, bB, bI, wipeE, nS, fS.inL (Nat.zero_le _)], fun _ => ⟨false, rfl⟩⟩
end Lk01

namespace Lk01
open PySem PySem.Spec PyProof.Rows L2 EV
def lev (n : Nat) : Nat → List (List Nat × Nat)
  | 0 => [([], 0)]
  | s + 1 => (lev n s).flatMap fun p => (List.range (n - p.2)).map fun t => (p.1 ++ [p.2 + t], p.2 + t + 1)
def lotsIx (n : Nat) : List (List Nat) := [] :: (List.range n).flatMap fun s => (lev n (s + 1)).map (·.1)
def lots (ns : List Str) : List (List Str) := (lotsIx ns.length).map fun l => l.map fun i => ns.getD i ""
theorem lots2 (i : Nat) (a b : Str) (S : Cells) : caF tab (i + 1) ("lots_of", none) [nS [a, b]] S = .ok (nL (lots [a, b]), false) S := by kernel_rfl
theorem lots3 (i : Nat) (a b c : Str) (S : Cells) : caF tab (i + 1) ("lots_of", none) [nS [a, b, c]] S = .ok (nL (lots [a, b, c]), false) S := by kernel_rfl
theorem lots4 (i : Nat) (a b c d : Str) (S : Cells) : caF tab (i + 1) ("lots_of", none) [nS [a, b, c, d]] S = .ok (nL (lots [a, b, c, d]), false) S := by kernel_rfl
theorem lots5 (i : Nat) (a b c d e : Str) (S : Cells) : caF tab (i + 1) ("lots_of", none) [nS [a, b, c, d, e]] S = .ok (nL (lots [a, b, c, d, e]), false) S := by kernel_rfl
theorem lots6 (i : Nat) (a b c d e f : Str) (S : Cells) : caF tab (i + 1) ("lots_of", none) [nS [a, b, c, d, e, f]] S = .ok (nL (lots [a, b, c, d, e, f]), false) S := by kernel_rfl
theorem lots_of_s {j : Nat} (hj : 1 ≤ j) {ns : List Str} (h2 : 2 ≤ ns.length) (h6 : ns.length ≤ 6) (S : Cells) : caF tab j ("lots_of", none) [nS ns] S = .ok (nL (lots ns), false) S := by
  obtain ⟨i, rfl, hi⟩ := fu hj
  match ns, h2, h6 with
  | [a, b], _, _ => exact lots2 ..
  | [a, b, c], _, _ => exact lots3 ..
  | [a, b, c, d], _, _ => exact lots4 ..
  | [a, b, c, d, e], _, _ => exact lots5 ..
  | [a, b, c, d, e, f], _, _ => exact lots6 ..
  | _ :: _ :: _ :: _ :: _ :: _ :: _ :: _, _, h => simp at h
  | [], h, _ => simp at h
  | [_], h, _ => simp at h
end Lk01

namespace Lk01
open PySem PySem.Spec PyProof.Rows L2 EV
theorem cutD_to {α : Type} (xs : List α) (i : Nat) (h : i ≤ xs.length) : EV.cutD xs none (some (i : Int)) = xs.take i := by
  unfold EV.cutD
  rw [HT.sIx_none, HT.sIx_nat]
  simp [Nat.min_eq_left h]
def unl {α : Type} [DecidableEq α] (xs : List α) (i : Nat) : Bool := match xs[i]? with
  | some x => !decide (x ∈ xs.take i)
  | none => true
theorem unl_all {α : Type} [DecidableEq α] (xs : List α) : (List.range xs.length).all (unl xs) = decide xs.Nodup := by
  rw [Bool.eq_iff_iff]
  simp only [List.all_eq_true, List.mem_range, decide_eq_true_eq]
  unfold List.Nodup
  rw [List.pairwise_iff_getElem]
  constructor
  · intro h i j hi hj hij e
    have := h j hj
    unfold unl at this
    rw [List.getElem?_eq_getElem hj] at this
    simp only [Bool.not_eq_true', decide_eq_false_iff_not] at this
    exact this (List.mem_iff_getElem.mpr ⟨i, by simp; omega, by simp [e]⟩)
  · intro h i hi
    unfold unl
    rw [List.getElem?_eq_getElem hi]
    simp only [Bool.not_eq_true', decide_eq_false_iff_not]
    intro hm
    obtain ⟨k, hk, e⟩ := List.mem_iff_getElem.mp hm
    simp at hk e
    have hk' : k < i := by omega
    exact h k i (by omega) hi hk' e
theorem are_unlike_g {α : Type} [DecidableEq α] {n : Nat} {enc : α → D} (f : Fa n enc) (hn : n ≤ 100) {j : Nat} (hj : 1 ≤ j) (xs : List α) (S : Cells) : caF tab j ("are_unlike", none) [.tup (xs.map enc)] S = .ok (.bl (decide xs.Nodup), false) S := by
  obtain ⟨i, rfl, hi⟩ := fu hj
  rw [ca_eq t_are_unlike]
  simp [runB, runF, initE, sSeq, sIf, exT_eq, sRet_eq, ex1_eq, exI_eq, sSet, sExpr, sFor, cOp1, cOp2, cOpn, cCall, aOf_nil, aOf_cons, aCons, aNil, aStar, seqD, cAnd, cOr, cIf, tNotT, tAndT, tOrT, tBl, tVal, cCon, cVar, lift, R.bind_ok, viewF, viewB, giveF, giveB, ownAt, immB, endF, sPass, tru, EV.iVal, itemsD, EV.iRng1, EV.iRng2, EV.iEnuA, EV.iZip, gNot, bB, bI, f_are_unlike]
  rw [comp_m (fun i : Nat => D.tup [.int i, (xs.map enc).getD i .non]) (List.range xs.length) (fun i => .bl (unl xs i))]
  · simp only [runB, runF, initE, sSeq, sIf, exT_eq, sRet_eq, ex1_eq, exI_eq, sSet, sExpr, sFor, cOp1, cOp2, cOpn, cCall, aOf_nil, aOf_cons, aCons, aNil, aStar, seqD, cAnd, cOr, cIf, tNotT, tAndT, tOrT, tBl, tVal, cCon, cVar, lift, R.bind_ok, viewF, viewB, giveF, giveB, ownAt, immB, endF, sPass, tru, EV.iVal, itemsD, EV.iRng1, EV.iRng2, EV.iEnuA, EV.iZip, gNot, bB, bI, bAll_map, unl_all]
  · simp [runB, runF, initE, sSeq, sIf, exT_eq, sRet_eq, ex1_eq, exI_eq, sSet, sExpr, sFor, cOp1, cOp2, cOpn, cCall, aOf_nil, aOf_cons, aCons, aNil, aStar, seqD, cAnd, cOr, cIf, tNotT, tAndT, tOrT, tBl, tVal, cCon, cVar, lift, R.bind_ok, viewF, viewB, giveF, giveB, ownAt, immB, endF, sPass, tru, EV.iVal, itemsD, EV.iRng1, EV.iRng2, EV.iEnuA, EV.iZip, gNot, bB, bI, enumD]
  · intro i hi
    rw [List.mem_range] at hi
    have e : (xs.map enc).getD i .non = enc xs[i] := by simp [List.getD_eq_getElem?_getD, hi]
    refine ⟨_, rfl, false, ?_⟩
    have e2 : EV.cutD (xs.map enc) none (some (i : Int)) = (xs.take i).map enc := by rw [cutD_to _ _ (by simp; omega), List.map_take]
    have e3 : unl xs i = !decide (xs[i] ∈ xs.take i) := by unfold unl; rw [List.getElem?_eq_getElem hi]
    simp only [runB, runF, initE, sSeq, sIf, exT_eq, sRet_eq, ex1_eq, exI_eq, sSet, sExpr, sFor, cOp1, cOp2, cOpn, cCall, aOf_nil, aOf_cons, aCons, aNil, aStar, seqD, cAnd, cOr, cIf, tNotT, tAndT, tOrT, tBl, tVal, cCon, cVar, lift, R.bind_ok, viewF, viewB, giveF, giveB, ownAt, immB, endF, sPass, tru, EV.iVal, itemsD, EV.iRng1, EV.iRng2, EV.iEnuA, EV.iZip, gNot, bB, bI, wipeE, e, e3, cSl, oNone, oSome, dSl, e2, f.ninT hn, List.set_cons_succ, List.set_cons_zero, List.getElem?_cons_succ, List.getElem?_cons_zero]
abbrev C (ns : List Str) : D := .ins "Circle" ["own_names"] [nS ns]
theorem at_names (S : Cells) (ns : List Str) : gAttr pg "names" S (C ns) = some (nS ns, false) := by kernel_rfl
theorem at_own (S : Cells) (ns : List Str) : gAttr pg "own_names" S (C ns) = some (nS ns, false) := by kernel_rfl
theorem mt_len (ns : List Str) : mtOk pg "__len__" 1 (C ns) = some (("Circle" : Str), []) := by kernel_rfl
theorem t_len : tab ("Circle", some "__len__") = some (.fn ⟨1, 1, sRet [0] (cLen pg (cOp1 (gAttr pg "own_names") (cVar 0)))⟩) := by kernel_rfl
theorem len_s {j : Nat} (hj : 1 ≤ j) (ns : List Str) (S : Cells) : caF tab j ("Circle", some "__len__") [C ns] S = .ok (.int ns.length, false) S := by
  obtain ⟨i, rfl, hi⟩ := fu hj
  rw [ca_eq t_len]
  simp [runB, runF, initE, sSeq, sIf, exT_eq, sRet_eq, ex1_eq, exI_eq, sSet, sExpr, sFor, cOp1, cOp2, cOpn, cCall, aOf_nil, aOf_cons, aCons, aNil, aStar, seqD, cAnd, cOr, cIf, tNotT, tAndT, tOrT, tBl, tVal, cCon, cVar, lift, R.bind_ok, viewF, viewB, giveF, giveB, ownAt, immB, endF, sPass, tru, EV.iVal, itemsD, EV.iRng1, EV.iRng2, EV.iEnuA, EV.iZip, gNot, bB, bI, at_own, cLen, nS, mtOk, bLen, lenD]
theorem cLen_C {i : Nat} (hi : 1 ≤ i) {f : SE} {ρ : En} {S : Cells} {ns : List Str} (h6 : ns.length ≤ 6) (h : f (caF tab i) ρ S = .ok (C ns, false) S) : cLen pg f (caF tab i) ρ S = .ok (.int ns.length, false) S := by
  unfold cLen
  rw [h, R.bind_ok]
  simp only [mt_len, len_s hi]
  have h1 : decide ((0 : Int) ≤ (ns.length : Int)) = true := by simp
  have h2 : decide ((ns.length : Int) < 2 ^ 63) = true := by apply decide_eq_true; omega
  rw [h1, h2]
  rfl
def isLot (ns x : List Str) : Bool := decide (x = ns.filter fun y => decide (y ∈ x))
theorem isLot_sub {ns x : List Str} (h : isLot ns x = true) : (x.all fun y => decide (y ∈ ns)) = true := by
  have h' := of_decide_eq_true h
  rw [List.all_eq_true]
  intro y hy
  rw [h'] at hy
  simpa using (List.mem_filter.mp hy).1
theorem is_lot_s {j : Nat} (hj : 2 ≤ j) (ns x : List Str) (S : Cells) : caF tab j ("is_lot", none) [C ns, nS x] S = .ok (.bl (isLot ns x), false) S := by
  obtain ⟨i, rfl, hi⟩ := fu hj
  rw [ca_eq t_is_lot]
  have hc : cComp (EV.iVal (cVar 1)) [2] (.nm 2) tYesT (cCall ("is_word", none) [] (aOf [cVar 2, cOp1 (gAttr pg "names") (cVar 0)])) (caF tab i) [some (C ns), some (nS x), none] S = .ok (.lst (x.map fun y => .bl (decide (y ∈ ns))), true) S :=
    comp_m .str x _ rfl fun y hy => ⟨_, rfl, false, by simp [runB, runF, initE, sSeq, sIf, exT_eq, sRet_eq, ex1_eq, exI_eq, sSet, sExpr, sFor, cOp1, cOp2, cOpn, cCall, aOf_nil, aOf_cons, aCons, aNil, aStar, seqD, cAnd, cOr, cIf, tNotT, tAndT, tOrT, tBl, tVal, cCon, cVar, lift, R.bind_ok, viewF, viewB, giveF, giveB, ownAt, immB, endF, sPass, tru, EV.iVal, itemsD, EV.iRng1, EV.iRng2, EV.iEnuA, EV.iZip, gNot, bB, bI, wipeE, at_names, is_word_s hi]⟩
  have ht : caF tab i ("is_tuple", none) [nS x, .int 0, .non] S = .ok (.bl true, false) S := by
    rw [nS, is_tuple_n hi]
    simp
  have hl := lot_of_s hi ns x S
  have he := fN.dEq (by decide) S x (ns.filter fun y => decide (y ∈ x))
  cases ha : x.all fun y => decide (y ∈ ns) with
  | true => simp [runB, runF, initE, sSeq, sIf, exT_eq, sRet_eq, ex1_eq, exI_eq, sSet, sExpr, sFor, cOp1, cOp2, cOpn, cCall, aOf_nil, aOf_cons, aCons, aNil, aStar, seqD, cAnd, cOr, cIf, tNotT, tAndT, tOrT, tBl, tVal, cCon, cVar, lift, R.bind_ok, viewF, viewB, giveF, giveB, ownAt, immB, endF, sPass, tru, EV.iVal, itemsD, EV.iRng1, EV.iRng2, EV.iEnuA, EV.iZip, gNot, bB, bI, f_is_lot, hc, ht, bAll_map, ha, at_names, hl, he, isLot]
  | false =>
    have hn : isLot ns x = false := by
      cases q : isLot ns x with
      | false => rfl
      | true => rw [isLot_sub q] at ha; cases ha
    simp [runB, runF, initE, sSeq, sIf, exT_eq, sRet_eq, ex1_eq, exI_eq, sSet, sExpr, sFor, cOp1, cOp2, cOpn, cCall, aOf_nil, aOf_cons, aCons, aNil, aStar, seqD, cAnd, cOr, cIf, tNotT, tAndT, tOrT, tBl, tVal, cCon, cVar, lift, R.bind_ok, viewF, viewB, giveF, giveB, ownAt, immB, endF, sPass, tru, EV.iVal, itemsD, EV.iRng1, EV.iRng2, EV.iEnuA, EV.iZip, gNot, bB, bI, f_is_lot, hc, ht, bAll_map, ha, hn]
def minl (fs : List (List Str)) : List (List Str) := fs.filter fun l => !fs.any fun t => decide (l ≠ t) && le t l
def leastOf (ns : List Str) (fs : List (List Str)) : List (List Str) := (lots ns).filter fun x => decide (x ∈ minl fs)
end Lk01

namespace Lk01
open PySem PySem.Spec PyProof.Rows L2 EV
theorem bTuple_nL (S : Cells) (fs : List (List Str)) : bTuple S [nL fs] = some (nF fs, false) := rfl
def stl (l : List Str) (t : List Str) : Bool := decide (l ≠ t) && le t l
/-- a tuple of unlike lots -/
structure Lots (ns : List Str) (fs : List (List Str)) : Prop where
  ne : fs ≠ []
  al : ∀ x, x ∈ fs → isLot ns x = true
  nd : fs.Nodup
structure Fam (ns : List Str) (fs : List (List Str)) : Prop extends Lots ns fs where
  lo : fs = leastOf ns fs
structure Nn (ns : List Str) : Prop where
  h2 : 2 ≤ ns.length
  h6 : ns.length ≤ 6
end Lk01

namespace Lk01
open PySem PySem.Spec PyProof.Rows L2 EV
/-! the lots, plain -/
theorem le_iff {x y : List Str} : le x y = true ↔ ∀ a, a ∈ x → a ∈ y := by
  unfold le
  simp [List.all_eq_true]
theorem le_refl (x : List Str) : le x x = true := le_iff.mpr fun _ h => h
theorem le_trans {x y z : List Str} (h : le x y = true) (k : le y z = true) : le x z = true := le_iff.mpr fun a ha => le_iff.mp k a (le_iff.mp h a ha)
def pick (ns : List Str) (l : List Nat) : List Str := l.map fun i => ns.getD i ""
def incB (n : Nat) (l : List Nat) : Bool := decide ((List.range n).filter (fun i => decide (i ∈ l)) = l)
theorem inc_all : ([2, 3, 4, 5, 6].all fun n => (lotsIx n).all (incB n)) = true := by decide +kernel
def subB (l m : List Nat) : Bool := l.all fun i => decide (i ∈ m)
def pwB : List (List Nat) → Bool
  | [] => true
  | l :: ls => (ls.all fun m => !subB m l) && pwB ls
theorem pw_all : ([2, 3, 4, 5, 6].all fun n => pwB (lotsIx n)) = true := by decide +kernel
theorem pwB_ok : ∀ {ls : List (List Nat)}, pwB ls = true → ls.Pairwise fun l m => subB m l = false
  | [], _ => .nil
  | l :: ls, h => by
    simp only [pwB, Bool.and_eq_true] at h
    refine .cons (fun m hm => ?_) (pwB_ok h.2)
    have := List.all_eq_true.mp h.1 m hm
    simpa using this
theorem full2 (m : Nat → Bool) : (List.range 2).filter m ∈ lotsIx 2 := by
  simp only [List.range, List.range.loop, List.filter_cons, List.filter_nil]
  cases m 0 <;> cases m 1 <;> decide +kernel
theorem full3 (m : Nat → Bool) : (List.range 3).filter m ∈ lotsIx 3 := by
  simp only [List.range, List.range.loop, List.filter_cons, List.filter_nil]
  cases m 0 <;> cases m 1 <;> cases m 2 <;> decide +kernel
theorem full4 (m : Nat → Bool) : (List.range 4).filter m ∈ lotsIx 4 := by
  simp only [List.range, List.range.loop, List.filter_cons, List.filter_nil]
  cases m 0 <;> cases m 1 <;> cases m 2 <;> cases m 3 <;> decide +kernel
theorem full5 (m : Nat → Bool) : (List.range 5).filter m ∈ lotsIx 5 := by
  simp only [List.range, List.range.loop, List.filter_cons, List.filter_nil]
  cases m 0 <;> cases m 1 <;> cases m 2 <;> cases m 3 <;> cases m 4 <;> decide +kernel
theorem full6 (m : Nat → Bool) : (List.range 6).filter m ∈ lotsIx 6 := by
  simp only [List.range, List.range.loop, List.filter_cons, List.filter_nil]
  cases m 0 <;> cases m 1 <;> cases m 2 <;> cases m 3 <;> cases m 4 <;> cases m 5 <;> decide +kernel
theorem full {n : Nat} (h2 : 2 ≤ n) (h6 : n ≤ 6) (m : Nat → Bool) : (List.range n).filter m ∈ lotsIx n := by
  have : n = 2 ∨ n = 3 ∨ n = 4 ∨ n = 5 ∨ n = 6 := by omega
  rcases this with rfl | rfl | rfl | rfl | rfl
  · exact full2 m
  · exact full3 m
  · exact full4 m
  · exact full5 m
  · exact full6 m
theorem inc_of {n : Nat} (h2 : 2 ≤ n) (h6 : n ≤ 6) {l : List Nat} (h : l ∈ lotsIx n) : (List.range n).filter (fun i => decide (i ∈ l)) = l := by
  have hn : n ∈ [2, 3, 4, 5, 6] := by simp; omega
  exact of_decide_eq_true (List.all_eq_true.mp (List.all_eq_true.mp inc_all n hn) l h)
structure Nm (ns : List Str) : Prop extends Nn ns where
  nd : ns.Nodup
section
variable {ns : List Str}
theorem ns_range : (List.range ns.length).map (fun i => ns.getD i "") = ns := by
  apply List.ext_getElem?
  intro i
  rw [List.getElem?_map]
  by_cases h : i < ns.length
  · rw [List.getElem?_range h]
    simp [List.getD_eq_getElem?_getD, h]
  · rw [List.getElem?_eq_none (by simp; omega), List.getElem?_eq_none (by omega)]
    rfl
theorem getD_inj (nd : ns.Nodup) {i j : Nat} (hi : i < ns.length) (hj : j < ns.length) (e : ns.getD i "" = ns.getD j "") : i = j := by
  simp only [List.getD_eq_getElem?_getD, List.getElem?_eq_getElem hi, List.getElem?_eq_getElem hj, Option.getD_some] at e
  exact (List.getElem_inj nd).mp e
theorem inc_lt {n : Nat} (h2 : 2 ≤ n) (h6 : n ≤ 6) {l : List Nat} (h : l ∈ lotsIx n) {i : Nat} (hi : i ∈ l) : i < n := by
  rw [← inc_of h2 h6 h] at hi
  exact List.mem_range.mp (List.mem_filter.mp hi).1
theorem mem_pick (N : Nm ns) {l : List Nat} (h : l ∈ lotsIx ns.length) {i : Nat} (hi : i < ns.length) : ns.getD i "" ∈ pick ns l ↔ i ∈ l := by
  unfold pick
  rw [List.mem_map]
  constructor
  · rintro ⟨j, hj, e⟩
    have := getD_inj N.nd (inc_lt N.h2 N.h6 h hj) hi e
    exact this ▸ hj
  · intro hl
    exact ⟨i, hl, rfl⟩
theorem filter_range (p : Str → Bool) : ns.filter p = pick ns ((List.range ns.length).filter fun i => p (ns.getD i "")) := by
  conv => lhs; rw [← ns_range (ns := ns)]
  rw [List.filter_map]
  rfl
theorem pick_lot (N : Nm ns) {l : List Nat} (h : l ∈ lotsIx ns.length) : isLot ns (pick ns l) = true := by
  unfold isLot
  apply decide_eq_true
  rw [filter_range]
  have : (List.range ns.length).filter (fun i => decide (ns.getD i "" ∈ pick ns l)) = l := by
    rw [← inc_of N.h2 N.h6 h]
    apply List.filter_congr
    intro i hi
    rw [List.mem_range] at hi
    have := mem_pick N h hi
    rw [inc_of N.h2 N.h6 h]
    exact decide_eq_decide.mpr this
  rw [this]
theorem mem_lots (N : Nm ns) {x : List Str} : x ∈ lots ns ↔ isLot ns x = true := by
  have e : lots ns = (lotsIx ns.length).map (pick ns) := rfl
  rw [e, List.mem_map]
  constructor
  · rintro ⟨l, hl, rfl⟩
    exact pick_lot N hl
  · intro h
    have h' := of_decide_eq_true h
    rw [filter_range] at h'
    exact ⟨_, full N.h2 N.h6 _, h'.symm⟩
theorem pw_lots (N : Nm ns) : (lots ns).Pairwise fun x y => le y x = false := by
  have e : lots ns = (lotsIx ns.length).map (pick ns) := rfl
  have hn : ns.length ∈ [2, 3, 4, 5, 6] := by
    have := N.h2
    have := N.h6
    simp
    omega
  rw [e, List.pairwise_map]
  have pw := pwB_ok (List.all_eq_true.mp pw_all _ hn)
  refine List.Pairwise.imp_of_mem (fun {l m} hl hm h => ?_) pw
  cases q : le (pick ns m) (pick ns l) with
  | false => rfl
  | true =>
    exfalso
    have : subB m l = true := by
      unfold subB
      rw [List.all_eq_true]
      intro i hi
      have hlt := inc_lt N.h2 N.h6 hm hi
      have h1 : ns.getD i "" ∈ pick ns m := (mem_pick N hm hlt).mpr hi
      exact decide_eq_true ((mem_pick N hl hlt).mp (le_iff.mp q _ h1))
    rw [this] at h
    cases h
theorem lots_anti (N : Nm ns) {x y : List Str} (hx : x ∈ lots ns) (hy : y ∈ lots ns) (h1 : le x y = true) (h2 : le y x = true) : x = y := by
  obtain ⟨i, hi, rfl⟩ := List.mem_iff_getElem.mp hx
  obtain ⟨j, hj, rfl⟩ := List.mem_iff_getElem.mp hy
  have pw := List.pairwise_iff_getElem.mp (pw_lots N)
  rcases Nat.lt_trichotomy i j with h | h | h
  · have := pw i j hi hj h
    rw [h2] at this
    cases this
  · subst h; rfl
  · have := pw j i hj hi h
    rw [h1] at this
    cases this
theorem lot_len {x : List Str} (h : isLot ns x = true) : x.length ≤ ns.length := by
  have h' := of_decide_eq_true h
  have := List.length_filter_le (fun y => decide (y ∈ x)) ns
  rw [← h'] at this
  exact this
theorem lots_nodup (N : Nm ns) : (lots ns).Nodup := by
  refine List.Pairwise.imp (fun {x y} h e => ?_) (pw_lots N)
  subst e
  rw [le_refl] at h
  cases h
theorem lots_len (N : Nm ns) : (lots ns).length ≤ 64 := by
  have e : (lots ns).length = (lotsIx ns.length).length := by simp [lots]
  rw [e]
  have hn : ns.length = 2 ∨ ns.length = 3 ∨ ns.length = 4 ∨ ns.length = 5 ∨ ns.length = 6 := by
    have := N.h2
    have := N.h6
    omega
  rcases hn with h | h | h | h | h <;> rw [h] <;> decide +kernel
/-- one of some, none of the others within -/
def Min (fs : List (List Str)) (x : List Str) : Prop := x ∈ fs ∧ ∀ t, t ∈ fs → t ≠ x → le t x = false
theorem mem_minl {fs : List (List Str)} {x : List Str} : x ∈ minl fs ↔ Min fs x := by
  unfold minl Min
  simp only [List.mem_filter, Bool.not_eq_true', List.any_eq_false, Bool.and_eq_true, decide_eq_true_eq, not_and, Bool.not_eq_true]
  constructor
  · rintro ⟨h1, h2⟩
    exact ⟨h1, fun t ht hne => h2 t ht (Ne.symm hne)⟩
  · rintro ⟨h1, h2⟩
    exact ⟨h1, fun t ht hne => h2 t ht (Ne.symm hne)⟩
theorem leastOf_congr {fs gs : List (List Str)} (h : ∀ x, x ∈ lots ns → (Min fs x ↔ Min gs x)) : leastOf ns fs = leastOf ns gs := by
  unfold leastOf
  apply List.filter_congr
  intro x hx
  exact decide_eq_decide.mpr (mem_minl.trans ((h x hx).trans mem_minl.symm))
def hasO (fs : List (List Str)) (x : List Str) : Bool := fs.any fun y => le y x
theorem hasO_iff {fs : List (List Str)} {x : List Str} : hasO fs x = true ↔ ∃ y, y ∈ fs ∧ le y x = true := by
  unfold hasO
  simp [List.any_eq_true]
/-- the least ones of those that have one of F are the least ones of F -/
theorem least_up (N : Nm ns) {fs gs : List (List Str)} (hf : ∀ x, x ∈ fs → x ∈ lots ns) (hg : ∀ x, x ∈ lots ns → (x ∈ gs ↔ hasO fs x = true)) (hgl : ∀ x, x ∈ gs → x ∈ lots ns) : leastOf ns gs = leastOf ns fs := by
  apply leastOf_congr
  intro x hx
  constructor
  · rintro ⟨h1, h2⟩
    obtain ⟨f, f1, f2⟩ := hasO_iff.mp ((hg x hx).mp h1)
    have up : ∀ t, t ∈ fs → t ∈ gs := fun t ht => (hg t (hf t ht)).mpr (hasO_iff.mpr ⟨t, ht, le_refl t⟩)
    have e : f = x := by
      by_cases h : f = x
      · exact h
      · have := h2 f (up f f1) h
        rw [f2] at this
        cases this
    exact ⟨e ▸ f1, fun t ht hne => h2 t (up t ht) hne⟩
  · rintro ⟨h1, h2⟩
    refine ⟨(hg x hx).mpr (hasO_iff.mpr ⟨x, h1, le_refl x⟩), fun t ht hne => ?_⟩
    cases q : le t x with
    | false => rfl
    | true =>
      exfalso
      obtain ⟨f, f1, f2⟩ := hasO_iff.mp ((hg t (hgl t ht)).mp ht)
      by_cases h : f = x
      · subst h
        exact hne (lots_anti N (hgl t ht) hx q f2)
      · have := h2 f f1 h
        rw [le_trans f2 q] at this
        cases this
end
end Lk01

namespace Lk01
open PySem PySem.Spec PyProof.Rows L2 EV
def plc : Nat → List (List Nat)
  | 0 => [[]]
  | n + 1 => plc n ++ (plc n).map fun l => l ++ [n]
def encP (l : List Nat) : D := .tup [.int l.length, .tup (l.map fun i => .int (i : Nat))]
theorem srt {n : Nat} (h1 : sortB ((plc n).map encP) = true) (h2 : strB ((lotsIx n).map encP) = true) (h3 : (lotsIx n).Perm (plc n)) (S : Cells) : bSorted S [.lst ((plc n).map encP)] = some (.lst ((lotsIx n).map encP), true) := by
  unfold bSorted
  simp only [h1, if_true, sort_is h2 (h3.map encP)]
theorem srt2 (S : Cells) : bSorted S [.lst ((plc 2).map encP)] = some (.lst ((lotsIx 2).map encP), true) := srt (by kernel_rfl) (by kernel_rfl) (by decide +kernel) S
theorem srt3 (S : Cells) : bSorted S [.lst ((plc 3).map encP)] = some (.lst ((lotsIx 3).map encP), true) := srt (by kernel_rfl) (by kernel_rfl) (by decide +kernel) S
theorem srt4 (S : Cells) : bSorted S [.lst ((plc 4).map encP)] = some (.lst ((lotsIx 4).map encP), true) := srt (by kernel_rfl) (by kernel_rfl) (by decide +kernel) S
theorem srt5 (S : Cells) : bSorted S [.lst ((plc 5).map encP)] = some (.lst ((lotsIx 5).map encP), true) := srt (by kernel_rfl) (by kernel_rfl) (by decide +kernel) S
theorem srt6 (S : Cells) : bSorted S [.lst ((plc 6).map encP)] = some (.lst ((lotsIx 6).map encP), true) := srt (by kernel_rfl) (by kernel_rfl) (by decide +kernel) S

def encT (l : List Nat) : D := .tup (l.map fun i => .int (i : Nat))
def alE (ns : List Str) (n : Nat) (x : Option B) : SEn := [some (nS ns, false), some (.lst ((plc n).map encT), true), some (.int ((n - 1 : Nat) : Int), false), none, x, none]
def al1 : SS := sSet 1 [] (cOpn gLstN (aOf [cOpn gTupN (aOf [])]))
def al2 : SS := sFor [0] (EV.iRng1 (cLen pg (cVar 0))) (.nm 2) (sSet 1 [1, 3, 2] (cOp2 dAdd (cVar 1) (cComp (EV.iVal (cVar 1)) [3] (.nm 3) tYesT (cOp2 dAdd (cVar 3) (cOpn gTupN (aOf [cVar 2]))))))
def al3 : SE := cComp (EV.iVal (cVar 1)) [3] (.nm 3) tYesT (cOpn gTupN (aOf [cLen pg (cVar 3), cVar 3]))
def al4 : SS := sRet [0, 2, 3, 4] (cComp (EV.iVal (cVar 4)) [5, 3] (.tp [.nm 5, .nm 3]) tYesT (cOpn bTuple (aOf [cComp (EV.iVal (cVar 3)) [2] (.nm 2) tYesT (cOp2 dIx (cVar 0) (cVar 2))])))
theorem f_al : f_law_all_lots = sSeq al1 (sSeq al2 (sSeq (sSet 4 [3, 1] (cOpn bSorted (aOf [al3]))) al4)) := rfl
theorem immL_ints : ∀ l : List Nat, immL (l.map fun i => D.int (i : Nat)) = true
  | [] => rfl
  | a :: l => by simp [immL, imm, immL_ints l]
theorem immL_P : ∀ l : List (List Nat), immL (l.map encP) = true
  | [] => rfl
  | a :: l => by simp [immL, encP, imm, immL_ints, immL_P l]
theorem al_e3 {ca : Ca} {d0 z : D} {l1 l2 l3 : List D} {S : Cells} (h3 : al3 ca [some d0, some (.lst l1), some z, none, none, none] S = .ok (.lst l2, true) S) (hs : bSorted S [.lst l2] = some (.lst l3, true)) (him : immL l3 = true) :
    sSet 4 [3, 1] (cOpn bSorted (aOf [al3])) ca [some (d0, false), some (.lst l1, true), some (z, false), none, none, none] S = .ok (.nx [some (d0, false), some (.lst l1, true), some (z, false), none, some (.lst l3, true), none]) S := by
  have e : ex1 [3, 1] (cOpn bSorted (aOf [al3])) ca [some (d0, false), some (.lst l1, true), some (z, false), none, none, none] S = .ok ((.lst l3, true), [some (d0, false), some (.lst l1, true), some (z, false), none, none, none]) S := by
    rw [ex1_eq]
    have v : viewF [3, 1] 0 [some (d0, false), some (.lst l1, true), some (z, false), none, none, none] = [some d0, some (.lst l1), some z, none, none, none] := rfl
    rw [v]
    simp only [cOpn, aOf_cons, aOf_nil, h3, R.bind_ok, hs, lift, immB, him, Bool.not_true, Bool.and_false, Bool.false_eq_true, if_false]
  simp only [sSet, e, R.bind_ok]
  rfl
theorem all_lots_of {ca : Ca} {ns : List Str} {z : D} {l1 l2 l3 : List D} {S : Cells} {r : R B} (hs : bSorted S [.lst l2] = some (.lst l3, true)) (him : immL l3 = true) (h1 : al1 ca (initE 6 [nS ns]) S = .ok (.nx [some (nS ns, false), some (.lst [.tup []], true), none, none, none, none]) S)
    (h2 : al2 ca [some (nS ns, false), some (.lst [.tup []], true), none, none, none, none] S = .ok (.nx [some (nS ns, false), some (.lst l1, true), some (z, false), none, none, none]) S) (h3 : al3 ca [some (nS ns), some (.lst l1), some z, none, none, none] S = .ok (.lst l2, true) S)
    (h4 : (al4 ca [some (nS ns, false), some (.lst l1, true), some (z, false), none, some (.lst l3, true), none] S).bind endF = r) : (f_law_all_lots ca (initE 6 [nS ns]) S).bind endF = r := by
  rw [f_al, sSeq_nx h1, sSeq_nx h2, sSeq_nx (al_e3 h3 hs him)]
  exact h4
theorem al_of {i : Nat} {ns : List Str} {S : Cells} {r : R B} (h : (f_law_all_lots (caF tab i) (initE 6 [nS ns]) S).bind endF = r) : caF tab (i + 1) ("_law_all_lots", none) [nS ns] S = r := by
  rw [ca_eq t_law_all_lots, runB_fn (show [nS ns].length = 1 from rfl)]
  exact h
theorem al_2 (i : Nat) (a b : Str) (S : Cells) : caF tab (i + 1) ("_law_all_lots", none) [nS [a, b]] S = .ok (nL (lots [a, b]), true) S := al_of (all_lots_of (z := .int 1) (l1 := (plc 2).map encT) (srt2 S) (immL_P _) (by kernel_rfl) (by kernel_rfl) (by kernel_rfl) (by kernel_rfl))
theorem al_3 (i : Nat) (a b c : Str) (S : Cells) : caF tab (i + 1) ("_law_all_lots", none) [nS [a, b, c]] S = .ok (nL (lots [a, b, c]), true) S := al_of (all_lots_of (z := .int 2) (l1 := (plc 3).map encT) (srt3 S) (immL_P _) (by kernel_rfl) (by kernel_rfl) (by kernel_rfl) (by kernel_rfl))
theorem al_4 (i : Nat) (a b c d : Str) (S : Cells) : caF tab (i + 1) ("_law_all_lots", none) [nS [a, b, c, d]] S = .ok (nL (lots [a, b, c, d]), true) S := al_of (all_lots_of (z := .int 3) (l1 := (plc 4).map encT) (srt4 S) (immL_P _) (by kernel_rfl) (by kernel_rfl) (by kernel_rfl) (by kernel_rfl))
theorem al_5 (i : Nat) (a b c d e : Str) (S : Cells) : caF tab (i + 1) ("_law_all_lots", none) [nS [a, b, c, d, e]] S = .ok (nL (lots [a, b, c, d, e]), true) S := al_of (all_lots_of (z := .int 4) (l1 := (plc 5).map encT) (srt5 S) (immL_P _) (by kernel_rfl) (by kernel_rfl) (by kernel_rfl) (by kernel_rfl))
theorem al_6 (i : Nat) (a b c d e f : Str) (S : Cells) : caF tab (i + 1) ("_law_all_lots", none) [nS [a, b, c, d, e, f]] S = .ok (nL (lots [a, b, c, d, e, f]), true) S := al_of (all_lots_of (z := .int 5) (l1 := (plc 6).map encT) (srt6 S) (immL_P _) (by kernel_rfl) (by kernel_rfl) (by kernel_rfl) (by kernel_rfl))
theorem law_all_lots_s {j : Nat} (hj : 1 ≤ j) {ns : List Str} (n : Nn ns) (S : Cells) : caF tab j ("_law_all_lots", none) [nS ns] S = .ok (nL (lots ns), true) S := by
  obtain ⟨i, rfl, hi⟩ := fu hj
  have h2 := n.h2
  have h6 := n.h6
  clear n
  match ns, h2, h6 with
  | [a, b], _, _ => exact al_2 ..
  | [a, b, c], _, _ => exact al_3 ..
  | [a, b, c, d], _, _ => exact al_4 ..
  | [a, b, c, d, e], _, _ => exact al_5 ..
  | [a, b, c, d, e, f], _, _ => exact al_6 ..
  | _ :: _ :: _ :: _ :: _ :: _ :: _ :: _, _, h => simp at h
  | [], h, _ => simp at h
  | [_], h, _ => simp at h
theorem law_is_lot_s {j : Nat} (hj : 2 ≤ j) (ns x : List Str) (S : Cells) : caF tab j ("_law_is_lot", none) [nS ns, nS x] S = .ok (.bl (isLot ns x), false) S := by
  obtain ⟨i, rfl, hi⟩ := fu hj
  rw [ca_eq t_law_is_lot]
  have hc : cComp (EV.iVal (cVar 1)) [2] (.nm 2) tYesT (cOp1 (gIsT "str") (cVar 2)) (caF tab i) [some (nS ns), some (nS x), none] S = .ok (.lst (x.map fun y => .bl true), true) S :=
    comp_m .str x _ rfl fun y hy => ⟨_, rfl, false, by simp [runB, runF, initE, sSeq, sIf, exT_eq, sRet_eq, ex1_eq, exI_eq, sSet, sExpr, sFor, cOp1, cOp2, cOpn, cCall, aOf_nil, aOf_cons, aCons, aNil, aStar, seqD, cAnd, cOr, cIf, tNotT, tAndT, tOrT, tBl, tVal, cCon, cVar, lift, R.bind_ok, viewF, viewB, giveF, giveB, ownAt, immB, endF, sPass, tru, EV.iVal, itemsD, EV.iRng1, EV.iRng2, EV.iEnuA, EV.iZip, gNot, bB, bI, wipeE, gIsT, tyD, tyB]⟩
  have ha : bAll S [.lst (x.map fun y => D.bl true)] = some (.bl true, false) := by
    rw [bAll_map S (fun _ => true) x]
    simp
  have hl := law_lot_of_s hi ns x S
  have he := fN.dEq (by decide) S x (ns.filter fun y => decide (y ∈ x))
  have ht : gIsT "tuple" S (nS x) = some (.bl true, false) := rfl
  simp [runB, runF, initE, sSeq, sIf, exT_eq, sRet_eq, ex1_eq, exI_eq, sSet, sExpr, sFor, cOp1, cOp2, cOpn, cCall, aOf_nil, aOf_cons, aCons, aNil, aStar, seqD, cAnd, cOr, cIf, tNotT, tAndT, tOrT, tBl, tVal, cCon, cVar, lift, R.bind_ok, viewF, viewB, giveF, giveB, ownAt, immB, endF, sPass, tru, EV.iVal, itemsD, EV.iRng1, EV.iRng2, EV.iEnuA, EV.iZip, gNot, bB, bI, f_law_is_lot, hc, ha, ht, hl, he, isLot]
end Lk01

namespace Lk01
open PySem PySem.Spec PyProof.Rows L2 EV
theorem tc : TakeC 97843 109 10487 181 173 := ⟨by decide, by decide, by decide, by decide, by decide⟩
theorem t_take' : tab ("_law_take", none) = some (.fn ⟨2, 5, takeForm 97843 109 10487 181 173⟩) := by kernel_rfl
theorem t_some' : tab ("_law_some", none) = some (.fn ⟨3, 6, someForm pg⟩) := by kernel_rfl
theorem takes {j : Nat} (hj : 1 ≤ j) : TakesP (caF tab j) := by
  obtain ⟨i, rfl, hi⟩ := fu hj
  exact takes_of_form tc fun ds S => ca_eq t_take' ds S
theorem law_some_s {α : Type} {enc : α → D} {j : Nat} (hj : 2 ≤ j) {c : Nat} {L : Shp} {M : Int} {S : Cells} (p : Ps c L M S) (hM : M < 2 ^ 39) (xs : List α) (hx : xs.length < 1000) (am : Nat) (ham : am ≤ xs.length) (pool : D) (hp : pool = .lst (xs.map enc) ∨ pool = .tup (xs.map enc)) :
    ∃ (ys zs : List α) (S' : Cells), caF tab j ("_law_some", none) [.cel c, pool, .int am] S = .ok (.lst (ys.map enc), false) S' ∧ (ys ++ zs).Perm xs ∧ ys.length = am ∧ Ps c L (M + am) S' := by
  obtain ⟨i, rfl, hi⟩ := fu hj
  obtain ⟨ys, zs, S', q⟩ := some_spec (enc := enc) (pg := pg) (takes hi) p hM xs hx am ham pool hp
  exact ⟨ys, zs, S', by rw [ca_eq t_some']; exact q.1, q.2⟩
theorem sub_nodup {α : Type} {ys zs xs : List α} (h : (ys ++ zs).Perm xs) (nd : xs.Nodup) : ys.Nodup := (List.nodup_append.mp (h.nodup_iff.mpr nd)).1
theorem sub_mem {α : Type} {ys zs xs : List α} (h : (ys ++ zs).Perm xs) {x : α} (hx : x ∈ ys) : x ∈ xs := h.mem_iff.mp (List.mem_append.mpr (.inl hx))
def pool : List Str := ["a", "b", "c", "d", "e", "f", "keeper", "parts", "write", "ask", "zzzzzzzz", "x"]
theorem pool_nd : pool.Nodup := by decide +kernel
structure Names (ns : List Str) : Prop extends Nm ns where
  pl : ∀ x, x ∈ ns → x ∈ pool
theorem law_names_s {j : Nat} (hj : 3 ≤ j) {c : Nat} {L : Shp} {M : Int} {S : Cells} (p : Ps c L M S) (hM : M < 2 ^ 38) :
    ∃ ns S', caF tab j ("_law_names", none) [.cel c, .int 2, .int 6] S = .ok (nS ns, false) S' ∧ Names ns ∧ Ps c L (M + 7) S' := by
  obtain ⟨i, rfl, hi⟩ := fu hj
  obtain ⟨r, S1, t1, t2, t3, t4⟩ := takes (j := i) (by omega) c L M 5 S p (by omega) (by decide) (by decide)
  obtain ⟨am, ham⟩ : ∃ am : Nat, (2 : Int) + r = am := ⟨(2 + r).toNat, by omega⟩
  have hp12 : pool.length = 12 := rfl
  obtain ⟨ys, zs, S2, s1, s2, s3, s4⟩ := law_some_s (enc := D.str) hi t4 (by omega) pool (by decide) am (by omega) (.lst (pool.map D.str)) (.inl rfl)
  refine ⟨ys, S2, ?_, { h2 := by omega, h6 := by omega, nd := sub_nodup s2 pool_nd, pl := fun x hx => sub_mem s2 hx }, s4.mono (by omega)⟩
  rw [ca_eq t_law_names, runB_fn (show [D.cel c, .int 2, .int 6].length = 3 from rfl)]
  have e0 : sSet 3 [] (cOpn gLstN (aOf [cCon (.str "a"), cCon (.str "b"), cCon (.str "c"), cCon (.str "d"), cCon (.str "e"), cCon (.str "f"), cCon (.str "keeper"), cCon (.str "parts"), cCon (.str "write"), cCon (.str "ask"), cCon (.str "zzzzzzzz"), cCon (.str "x")])) (caF tab i) (initE 4 [.cel c, .int 2, .int 6]) S = .ok (.nx [some (.cel c, false), some (.int 2, false), some (.int 6, false), some (.lst (pool.map D.str), true)]) S := rfl
  unfold f_law_names
  rw [sSeq_nx e0, sRet_eq]
  have v : viewF [0, 3, 1, 2] 0 [some (.cel c, false), some (.int 2, false), some (.int 6, false), some (.lst (pool.map D.str), true)] = [some (.cel c), some (.int 2), some (.int 6), some (.lst (pool.map D.str))] := rfl
  rw [v]
  have e5 : (6 : Int) - 2 + 1 = 5 := by decide
  simp only [runB, runF, initE, sSeq, sIf, exT_eq, sRet_eq, ex1_eq, exI_eq, sSet, sExpr, sFor, cOp1, cOp2, cOpn, cCall, aOf_nil, aOf_cons, aCons, aNil, aStar, seqD, cAnd, cOr, cIf, tNotT, tAndT, tOrT, tBl, tVal, cCon, cVar, lift, R.bind_ok, viewF, viewB, giveF, giveB, ownAt, immB, endF, sPass, tru, EV.iVal, itemsD, EV.iRng1, EV.iRng2, EV.iEnuA, EV.iZip, gNot, bB, bI, List.getElem?_cons_succ, List.getElem?_cons_zero, dSub, dAdd, dInt, e5, if_true, List.append_nil, t1, ham, s1, bTuple]
  rfl
/-! the circle is made -/
theorem is_name_s {j : Nat} (hj : 1 ≤ j) {x : Str} (hx : x ∈ pool) (S : Cells) : caF tab j ("is_name", none) [.str x] S = .ok (.bl true, false) S := by
  obtain ⟨i, rfl, hi⟩ := fu hj
  simp only [pool, List.mem_cons, List.not_mem_nil, or_false] at hx
  rcases hx with rfl | rfl | rfl | rfl | rfl | rfl | rfl | rfl | rfl | rfl | rfl | rfl <;> kernel_rfl
def ini1 : SS := sIf [1, 2] (tOrT (tNotT (tVal (cCall ("is_tuple", none) [] (aOf [cVar 1, cCon (.int 2), cCon (.int 6)])))) (tNotT (tVal (cOpn bAll (aOf [cComp (EV.iVal (cVar 1)) [2] (.nm 2) tYesT (cCall ("is_name", none) [] (aOf [cVar 2]))]))))) (sRaise [1] "BadNames" (cVar 1)) sPass
def ini2 : SS := sIf [1] (tNotT (tVal (cCall ("are_unlike", none) [] (aOf [cVar 1])))) (sRaise [1] "BadNames" (cVar 1)) sPass
theorem t_ini : tab ("Circle", some "__init__") = some (.ini "Circle" ["own_names"] 1 3 [ini1, ini2] [cVar 1]) := by kernel_rfl
theorem circle_s {j : Nat} (hj : 2 ≤ j) {ns : List Str} (N : Names ns) {S : Cells} (hS : ∀ o, o ∈ S → isIntC o = true) : caF tab j ("Circle", some "__init__") [nS ns] S = .ok (C ns, false) S := by
  obtain ⟨i, rfl, hi⟩ := fu hj
  rw [ca_eq t_ini]
  have h2 := N.h2
  have h6 := N.h6
  have ht : ∀ S, caF tab i ("is_tuple", none) [nS ns, .int 2, .int 6] S = .ok (.bl true, false) S := fun S => by
    rw [nS, is_tuple_m hi]
    have a1 : (2 : Int) ≤ (ns.length : Int) := by omega
    have a2 : (ns.length : Int) ≤ 6 := by omega
    simp [a1, a2]
  have hu : ∀ S, caF tab i ("are_unlike", none) [nS ns] S = .ok (.bl true, false) S := fun S => by
    rw [nS, are_unlike_g fS (by decide) hi]
    simp [N.nd]
  have hc : ∀ (d : D) S, cComp (EV.iVal (cVar 1)) [2] (.nm 2) tYesT (cCall ("is_name", none) [] (aOf [cVar 2])) (caF tab i) [some d, some (nS ns), none] S = .ok (.lst (ns.map fun _ => .bl true), true) S := fun d S =>
    comp_m .str ns _ rfl fun y hy => ⟨_, rfl, false, by simp [runB, runF, initE, sSeq, sIf, exT_eq, sRet_eq, ex1_eq, exI_eq, sSet, sExpr, sFor, cOp1, cOp2, cOpn, cCall, aOf_nil, aOf_cons, aCons, aNil, aStar, seqD, cAnd, cOr, cIf, tNotT, tAndT, tOrT, tBl, tVal, cCon, cVar, lift, R.bind_ok, viewF, viewB, giveF, giveB, ownAt, immB, endF, sPass, tru, EV.iVal, itemsD, EV.iRng1, EV.iRng2, EV.iEnuA, EV.iZip, gNot, bB, bI, wipeE, is_name_s hi (N.pl y hy)]⟩
  have ha : ∀ S, bAll S [.lst (ns.map fun _ => D.bl true)] = some (.bl true, false) := fun S => by
    rw [bAll_map S (fun _ => true) ns]
    simp
  refine runI_ok (ρ := [some (.cel S.length, false), some (nS ns, false), none]) rfl ?_ hS (by simp [selfAt]) ?_ rfl
  · have e1 : ini1 (caF tab i) (initE 3 [.cel S.length, nS ns]) (S ++ [.ob "Circle" [] []]) = .ok (.nx [some (.cel S.length, false), some (nS ns, false), none]) (S ++ [.ob "Circle" [] []]) := by
      simp [runB, runF, initE, sSeq, sIf, exT_eq, sRet_eq, ex1_eq, exI_eq, sSet, sExpr, sFor, cOp1, cOp2, cOpn, cCall, aOf_nil, aOf_cons, aCons, aNil, aStar, seqD, cAnd, cOr, cIf, tNotT, tAndT, tOrT, tBl, tVal, cCon, cVar, lift, R.bind_ok, viewF, viewB, giveF, giveB, ownAt, immB, endF, sPass, tru, EV.iVal, itemsD, EV.iRng1, EV.iRng2, EV.iEnuA, EV.iZip, gNot, bB, bI, ini1, ht, hc, ha]
    have e2 : ini2 (caF tab i) [some (.cel S.length, false), some (nS ns, false), none] (S ++ [.ob "Circle" [] []]) = .ok (.nx [some (.cel S.length, false), some (nS ns, false), none]) (S ++ [.ob "Circle" [] []]) := by
      simp [runB, runF, initE, sSeq, sIf, exT_eq, sRet_eq, ex1_eq, exI_eq, sSet, sExpr, sFor, cOp1, cOp2, cOpn, cCall, aOf_nil, aOf_cons, aCons, aNil, aStar, seqD, cAnd, cOr, cIf, tNotT, tAndT, tOrT, tBl, tVal, cCon, cVar, lift, R.bind_ok, viewF, viewB, giveF, giveB, ownAt, immB, endF, sPass, tru, EV.iVal, itemsD, EV.iRng1, EV.iRng2, EV.iEnuA, EV.iZip, gNot, bB, bI, ini2, hu]
    show sSeq ini1 (sSeq ini2 sPass) _ _ _ = _
    rw [sSeq_nx e1, sSeq_nx e2]
    rfl
  · have e : cfr S.length (nS ns) = true := by
      simp only [nS, cfr]
      exact cfrL_str ns
    simp [runB, runF, initE, sSeq, sIf, exT_eq, sRet_eq, ex1_eq, exI_eq, sSet, sExpr, sFor, cOp1, cOp2, cOpn, cCall, aOf_nil, aOf_cons, aCons, aNil, aStar, seqD, cAnd, cOr, cIf, tNotT, tAndT, tOrT, tBl, tVal, cCon, cVar, lift, R.bind_ok, viewF, viewB, giveF, giveB, ownAt, immB, endF, sPass, tru, EV.iVal, itemsD, EV.iRng1, EV.iRng2, EV.iEnuA, EV.iZip, gNot, bB, bI, viewI, e]
theorem fil_lot (ns ys : List Str) : isLot ns (ns.filter fun x => decide (x ∈ ys)) = true := by
  unfold isLot
  apply decide_eq_true
  apply List.filter_congr
  intro x hx
  apply decide_eq_decide.mpr
  rw [List.mem_filter]
  simp [hx]
theorem law_a_lot_s {j : Nat} (hj : 3 ≤ j) {ns : List Str} (N : Nm ns) {few : Int} (hf : 0 ≤ few) (hf2 : few ≤ 2) {c : Nat} {L : Shp} {M : Int} {S : Cells} (p : Ps c L M S) (hM : M < 2 ^ 38) :
    ∃ x S', caF tab j ("_law_a_lot", none) [.cel c, nS ns, .int few] S = .ok (nS x, false) S' ∧ x ∈ lots ns ∧ (1 ≤ few → x ≠ []) ∧ Ps c L (M + 10) S' := by
  obtain ⟨i, rfl, hi⟩ := fu hj
  have h2 := N.h2
  have h6 := N.h6
  obtain ⟨r, S1, t1, t2, t3, t4⟩ := takes (j := i) (by omega) c L M ((ns.length : Int) - few + 1) S p (by omega) (by omega) (by omega)
  obtain ⟨am, ham⟩ : ∃ am : Nat, few + r = am := ⟨(few + r).toNat, by omega⟩
  obtain ⟨ys, zs, S2, s1, s2, s3, s4⟩ := law_some_s (enc := D.str) hi t4 (by omega) ns (by omega) am (by omega) (nS ns) (.inr rfl)
  refine ⟨ns.filter fun x => decide (x ∈ ys), S2, ?_, (mem_lots N).mpr (fil_lot ns ys), fun h1 => ?_, s4.mono (by omega)⟩
  rotate_left
  · cases ys with
    | nil => simp at s3; omega
    | cons y ys => exact List.ne_nil_of_mem (List.mem_filter.mpr ⟨sub_mem s2 (List.mem_cons_self ..), by simp⟩)
  rw [ca_eq t_law_a_lot]
  have hl : ∀ ρ : En, ρ[1]? = some (some (nS ns)) → cLen pg (cVar 1) (caF tab i) ρ S = .ok (.int ns.length, false) S := fun ρ hρ => by
    simp [runB, runF, initE, sSeq, sIf, exT_eq, sRet_eq, ex1_eq, exI_eq, sSet, sExpr, sFor, cOp1, cOp2, cOpn, cCall, aOf_nil, aOf_cons, aCons, aNil, aStar, seqD, cAnd, cOr, cIf, tNotT, tAndT, tOrT, tBl, tVal, cCon, cVar, lift, R.bind_ok, viewF, viewB, giveF, giveB, ownAt, immB, endF, sPass, tru, EV.iVal, itemsD, EV.iRng1, EV.iRng2, EV.iEnuA, EV.iZip, gNot, bB, bI, hρ, cLen, nS, mtOk, bLen, lenD]
  simp [runB, runF, initE, sSeq, sIf, exT_eq, sRet_eq, ex1_eq, exI_eq, sSet, sExpr, sFor, cOp1, cOp2, cOpn, cCall, aOf_nil, aOf_cons, aCons, aNil, aStar, seqD, cAnd, cOr, cIf, tNotT, tAndT, tOrT, tBl, tVal, cCon, cVar, lift, R.bind_ok, viewF, viewB, giveF, giveB, ownAt, immB, endF, sPass, tru, EV.iVal, itemsD, EV.iRng1, EV.iRng2, EV.iEnuA, EV.iZip, gNot, bB, bI, f_law_a_lot, hl, dSub, dAdd, dInt, t1, ham, s1, law_lot_of_l (j := i) (by omega)]
end Lk01

namespace Lk01
open PySem PySem.Spec PyProof.Rows L2 EV
/-! ### values of any kind -/
theorem nice_ty {d : D} (h : nice d = true) : ∃ a, tyD d = some a := by
  cases d <;> first | exact ⟨_, rfl⟩ | simp [nice] at h
theorem is_tuple_no {j : Nat} (hj : 1 ≤ j) {d : D} {a : String} (h : tyD d = some a) (ha : tyB a "tuple" = false) (l m : D) (S : Cells) : caF tab j ("is_tuple", none) [d, l, m] S = .ok (.bl false, false) S := by
  obtain ⟨i, rfl, hi⟩ := fu hj
  rw [ca_eq t_is_tuple]
  simp [runB, runF, initE, sSeq, sIf, exT_eq, sRet_eq, ex1_eq, exI_eq, sSet, sExpr, sFor, cOp1, cOp2, cOpn, cCall, aOf_nil, aOf_cons, aCons, aNil, aStar, seqD, cAnd, cOr, cIf, tNotT, tAndT, tOrT, tBl, tVal, cCon, cVar, lift, R.bind_ok, viewF, viewB, giveF, giveB, ownAt, immB, endF, sPass, tru, EV.iVal, itemsD, EV.iRng1, EV.iRng2, EV.iEnuA, EV.iZip, gNot, bB, bI, f_is_tuple, gIsT, h, ha]
def wordIn (d : D) (ys : List Str) : Bool := match d with
  | .str x => decide (x ∈ ys)
  | _ => false
theorem is_word_any {j : Nat} (hj : 1 ≤ j) {d : D} (h : nice d = true) (ys : List Str) (S : Cells) : caF tab j ("is_word", none) [d, nS ys] S = .ok (.bl (wordIn d ys), false) S := by
  cases d with
  | str x => exact is_word_s hj x ys S
  | ins _ _ _ => simp [nice] at h
  | exc _ _ => simp [nice] at h
  | cel _ => simp [nice] at h
  | scr _ => simp [nice] at h
  | _ =>
    obtain ⟨i, rfl, hi⟩ := fu hj
    rw [ca_eq t_is_word]
    simp [runB, runF, initE, sSeq, sIf, exT_eq, sRet_eq, ex1_eq, exI_eq, sSet, sExpr, sFor, cOp1, cOp2, cOpn, cCall, aOf_nil, aOf_cons, aCons, aNil, aStar, seqD, cAnd, cOr, cIf, tNotT, tAndT, tOrT, tBl, tVal, cCon, cVar, lift, R.bind_ok, viewF, viewB, giveF, giveB, ownAt, immB, endF, sPass, tru, EV.iVal, itemsD, EV.iRng1, EV.iRng2, EV.iEnuA, EV.iZip, gNot, bB, bI, f_is_word, gIsT, tyD, tyB, wordIn]
/-! names -/
def abc : Str := "abcdefghijklmnopqrstuvwxyz"
def ltr (c : Nat) : Bool := strIn abc ⟨#[c]⟩
def nmOk (x : Str) : Bool := decide (1 ≤ x.length) && decide (x.length ≤ 8) && (ch x).all ltr
def nmD (d : D) : Bool := match d with
  | .str x => nmOk x
  | _ => false
theorem cLen_str {f : SE} {ca : Ca} {ρ : En} {S : Cells} {x : Str} {o : Bool} (h : f ca ρ S = .ok (.str x, o) S) : cLen pg f ca ρ S = .ok (.int x.length, false) S := by
  unfold cLen
  rw [h]
  rfl
theorem cLen_tup {f : SE} {ca : Ca} {ρ : En} {S : Cells} {ds : List D} {o : Bool} (h : f ca ρ S = .ok (.tup ds, o) S) : cLen pg f ca ρ S = .ok (.int ds.length, false) S := by
  unfold cLen
  rw [h]
  rfl
theorem le_i (S : Cells) (a b : Int) : dLe S (.int a) (.int b) = some (.bl (decide (a ≤ b)), false) := rfl
theorem lt_i (S : Cells) (a b : Int) : dLt S (.int a) (.int b) = some (.bl (decide (a < b)), false) := rfl
theorem chain_le {ca : Ca} {ρ : En} {S : Cells} {f : SE} {a b n : Int} {o : Bool} (h : f ca ρ S = .ok (.int n, o) S) : cChain dLe dLe (cCon (.int a)) f (cCon (.int b)) ca ρ S = .ok (.bl (decide (a ≤ n) && decide (n ≤ b)), false) S := by
  unfold cChain
  simp only [cCon, R.bind_ok, h, le_i]
  cases decide (a ≤ n) <;> rfl
theorem chain_lt {ca : Ca} {ρ : En} {S : Cells} {f : SE} {a b n : Int} {o : Bool} (h : f ca ρ S = .ok (.int n, o) S) : cChain dLt dLt (cCon (.int a)) f (cCon (.int b)) ca ρ S = .ok (.bl (decide (a < n) && decide (n < b)), false) S := by
  unfold cChain
  simp only [cCon, R.bind_ok, h, lt_i]
  cases decide (a < n) <;> rfl
theorem is_name_str {j : Nat} (hj : 1 ≤ j) (x : Str) (S : Cells) : caF tab j ("is_name", none) [.str x] S = .ok (.bl (nmOk x), false) S := by
  obtain ⟨i, rfl, hi⟩ := fu hj
  rw [ca_eq t_is_name, runB_fn (show [D.str x].length = 1 from rfl)]
  unfold f_is_name
  have hc := chain_le (ca := caF tab i) (ρ := viewF [0] 0 (initE 2 [.str x])) (S := S) (a := 1) (b := 8) (cLen_str (f := cVar 0) (x := x) (o := false) rfl)
  have ht : tOrT (tNotT (tVal (cOp1 (gIsT "str") (cVar 0)))) (tNotT (tBl (cChain dLe dLe (cCon (.int 1)) (cLen pg (cVar 0)) (cCon (.int 8))))) (caF tab i) (viewF [0] 0 (initE 2 [.str x])) S = .ok (!(decide ((1 : Int) ≤ x.length) && decide ((x.length : Int) ≤ 8))) S := by
    rw [tor_f (S' := S) (tnot_ok (b := true) (tval_ok (o := false) rfl))]
    exact tnot_ok (tbl_ok hc)
  have e1 : decide ((1 : Int) ≤ x.length) = decide (1 ≤ x.length) := decide_eq_decide.mpr (by omega)
  have e2 : decide ((x.length : Int) ≤ 8) = decide (x.length ≤ 8) := decide_eq_decide.mpr (by omega)
  rw [e1, e2] at ht
  cases q : decide (1 ≤ x.length) && decide (x.length ≤ 8) with
  | false =>
    rw [q] at ht
    unfold sSeq sIf
    rw [exT_eq, ht]
    unfold nmOk
    rw [q]
    rfl
  | true =>
    rw [q] at ht
    rw [sSeq_nx (S' := S) (ρ' := initE 2 [.str x]) (by unfold sIf; rw [exT_eq, ht]; rfl), sRet_eq]
    have hcm : cComp (EV.iVal (cVar 0)) [1] (.nm 1) tYesT (cOp2 dIn (cVar 1) (cCon (.str "abcdefghijklmnopqrstuvwxyz"))) (caF tab i) (viewF [1, 0] 0 (initE 2 [.str x])) S = .ok (.lst ((ch x).map fun c => .bl (ltr c)), true) S :=
      comp_m (fun c => D.str ⟨#[c]⟩) (ch x) _ rfl fun c hc => ⟨_, rfl, false, rfl⟩
    rw [opn1_ok (r := (.bl ((ch x).all ltr), false)) hcm (bAll_map S ltr (ch x))]
    unfold nmOk
    rw [q]
    rfl
theorem is_name_any {j : Nat} (hj : 1 ≤ j) {d : D} (h : nice d = true) (S : Cells) : caF tab j ("is_name", none) [d] S = .ok (.bl (nmD d), false) S := by
  cases d with
  | str x => exact is_name_str hj x S
  | ins _ _ _ => simp [nice] at h
  | exc _ _ => simp [nice] at h
  | cel _ => simp [nice] at h
  | scr _ => simp [nice] at h
  | _ =>
    obtain ⟨i, rfl, hi⟩ := fu hj
    rw [ca_eq t_is_name]
    simp [runB, runF, initE, sSeq, sIf, exT_eq, sRet_eq, ex1_eq, exI_eq, sSet, sExpr, sFor, cOp1, cOp2, cOpn, cCall, aOf_nil, aOf_cons, aCons, aNil, aStar, seqD, cAnd, cOr, cIf, tNotT, tAndT, tOrT, tBl, tVal, cCon, cVar, lift, R.bind_ok, viewF, viewB, giveF, giveB, ownAt, immB, endF, sPass, tru, EV.iVal, itemsD, EV.iRng1, EV.iRng2, EV.iEnuA, EV.iZip, gNot, bB, bI, f_is_name, gIsT, tyD, tyB, nmD]
/-! tuples of texts -/
def strs? : List D → Option (List Str)
  | [] => some []
  | .str x :: ds => (strs? ds).map (x :: ·)
  | _ :: _ => none
theorem strs_some : ∀ {ds : List D} {xs : List Str}, strs? ds = some xs → ds = xs.map .str
  | [], xs, h => by cases h; rfl
  | d :: ds, xs, h => by
    cases d <;> simp only [strs?] at h <;> first | cases h | skip
    cases q : strs? ds with
    | none => rw [q] at h; cases h
    | some ys => rw [q] at h; cases h; rw [strs_some q]; rfl
theorem strs_map : ∀ xs : List Str, strs? (xs.map .str) = some xs
  | [] => rfl
  | x :: xs => by simp [strs?, strs_map xs]
def isS : D → Bool
  | .str _ => true
  | _ => false
theorem strs_none : ∀ {ds : List D}, strs? ds = none → ds.all isS = false
  | [], h => by cases h
  | d :: ds, h => by
    cases d <;> first | rfl | skip
    simp only [strs?] at h
    cases q : strs? ds with
    | none =>
      have := strs_none q
      simp [this]
    | some ys => rw [q] at h; cases h
def circN (d : D) : Option (List Str) := match d with
  | .tup ds => (match strs? ds with
    | some xs => if decide (2 ≤ xs.length) && decide (xs.length ≤ 6) && xs.all nmOk && decide xs.Nodup then some xs else none
    | none => none)
  | _ => none
theorem nm_isS {ds : List D} (h : ds.all isS = false) : ds.all nmD = false := by
  cases q : ds.all nmD with
  | false => rfl
  | true =>
    have : ds.all isS = true := List.all_eq_true.mpr fun d hd => by
      have := List.all_eq_true.mp q d hd
      cases d <;> simp [nmD] at this <;> rfl
    rw [h] at this
    cases this
/-! the circle of any value -/
mutual
theorem nice_cfr (n : Nat) : ∀ d : D, nice d = true → cfr n d = true
  | .non, _ => rfl
  | .bl _, _ => rfl
  | .int _, _ => rfl
  | .str _, _ => rfl
  | .tup ds, h => by simp only [nice] at h; simp only [cfr]; exact nice_cfrL n ds h
  | .lst ds, h => by simp only [nice] at h; simp only [cfr]; exact nice_cfrL n ds h
  | .dic ks vs, h => by
    have : niceD ks vs = true := by simpa only [nice] using h
    unfold niceD at this
    split at this <;> first | rfl | cases this
  | .ins _ _ _, h => by simp [nice] at h
  | .exc _ _, h => by simp [nice] at h
  | .cel _, h => by simp [nice] at h
  | .scr _, h => by simp [nice] at h
theorem nice_cfrL (n : Nat) : ∀ ds : List D, niceL ds = true → cfrL n ds = true
  | [], _ => rfl
  | d :: ds, h => by
    simp only [niceL, Bool.and_eq_true] at h
    simp only [cfrL, Bool.and_eq_true]
    exact ⟨nice_cfr n d h.1, nice_cfrL n ds h.2⟩
end
theorem runI_exn {c x : Str} {flds : List Str} {n N : Nat} {pres : List SS} {es : List SE} {ca : Ca} {ds : List D} {d : D} {S : Cells} (hl : ds.length = n) (h1 : seqL pres ca (initE N (.cel S.length :: ds)) (S ++ [.ob c [] []]) = .exn x d (S ++ [.ob c [] []])) (hi : ∀ o, o ∈ S → isIntC o = true) (hc : cfr S.length d = true) :
    runI c flds n N pres es ca ds S = .exn x d S := by
  have e2 : (S ++ [Cel.ob c [] []]).take S.length = S := by simp
  unfold runI
  rw [if_pos hl, h1]
  simp only [dropOk_new hi, hc, Bool.and_self, if_true, e2]
end Lk01

namespace Lk01
open PySem PySem.Spec PyProof.Rows L2 EV
def it1 : ST := tOrT (tNotT (tVal (cCall ("is_tuple", none) [] (aOf [cVar 1, cCon (.int 2), cCon (.int 6)])))) (tNotT (tVal (cOpn bAll (aOf [cComp (EV.iVal (cVar 1)) [2] (.nm 2) tYesT (cCall ("is_name", none) [] (aOf [cVar 2]))]))))
def b1 (d : D) : Bool := match d with
  | .tup ds => decide (2 ≤ ds.length) && decide (ds.length ≤ 6) && ds.all nmD
  | _ => false
theorem it1_s {i : Nat} (hi : 1 ≤ i) {d : D} (hd : nice d = true) (z : D) (S : Cells) : it1 (caF tab i) [some z, some d, none] S = .ok (!b1 d) S := by
  have no : ∀ a, tyD d = some a → tyB a "tuple" = false → it1 (caF tab i) [some z, some d, none] S = .ok true S := fun a h1 h2 => by
    refine tor_t (tnot_ok (b := false) (tval_ok (o := false) ?_))
    rw [call3_ok (a := (d, false)) (b := (.int 2, false)) (d := (.int 6, false)) (S1 := S) (S2 := S) (S3 := S) rfl rfl rfl]
    exact is_tuple_no hi h1 h2 _ _ S
  cases d with
  | tup ds =>
    have ht : tVal (cCall ("is_tuple", none) [] (aOf [cVar 1, cCon (.int 2), cCon (.int 6)])) (caF tab i) [some z, some (.tup ds), none] S = .ok (decide (2 ≤ ds.length) && decide (ds.length ≤ 6)) S := by
      refine tval_ok (o := false) ?_
      rw [call3_ok (a := (.tup ds, false)) (b := (.int 2, false)) (d := (.int 6, false)) (S1 := S) (S2 := S) (S3 := S) rfl rfl rfl]
      show caF tab i ("is_tuple", none) [.tup ds, .int 2, .int 6] S = _
      rw [is_tuple_m hi]
      have e1 : decide ((2 : Int) ≤ ds.length) = decide (2 ≤ ds.length) := decide_eq_decide.mpr (by omega)
      have e2 : decide ((ds.length : Int) ≤ 6) = decide (ds.length ≤ 6) := decide_eq_decide.mpr (by omega)
      rw [e1, e2]
    simp only [nice] at hd
    have hc : cComp (EV.iVal (cVar 1)) [2] (.nm 2) tYesT (cCall ("is_name", none) [] (aOf [cVar 2])) (caF tab i) [some z, some (.tup ds), none] S = .ok (.lst (ds.map fun y => .bl (nmD y)), true) S :=
      comp_m (fun d => d) ds _ (by simp [EV.iVal, cVar, R.bind_ok, itemsD]) fun y hy => ⟨[some z, some (.tup ds), some y], rfl, false, by
        rw [call1_ok (a := (y, false)) (S1 := S) rfl]
        exact is_name_any hi (niceL_mem hd hy) S⟩
    unfold it1
    show _ = R.ok (!(decide (2 ≤ ds.length) && decide (ds.length ≤ 6) && ds.all nmD)) S
    cases q : decide (2 ≤ ds.length) && decide (ds.length ≤ 6) with
    | false =>
      rw [q] at ht
      exact tor_t (tnot_ok ht)
    | true =>
      rw [q] at ht
      rw [tor_f (tnot_ok ht), Bool.true_and]
      exact tnot_ok (tval_ok (opn1_ok hc (bAll_map S nmD ds)))
  | ins _ _ _ => simp [nice] at hd
  | exc _ _ => simp [nice] at hd
  | cel _ => simp [nice] at hd
  | scr _ => simp [nice] at hd
  | non => exact no _ rfl rfl
  | bl _ => exact no _ rfl rfl
  | int _ => exact no _ rfl rfl
  | str _ => exact no _ rfl rfl
  | lst _ => exact no _ rfl rfl
  | dic _ _ => exact no _ rfl rfl
theorem b1_in {d : D} (h : b1 d = true) : ∃ xs, d = nS xs ∧ 2 ≤ xs.length ∧ xs.length ≤ 6 ∧ xs.all nmOk = true := by
  unfold b1 at h
  split at h
  · rename_i ds
    simp only [Bool.and_eq_true, decide_eq_true_eq] at h
    cases q : strs? ds with
    | none => rw [nm_isS (strs_none q)] at h; simp at h
    | some xs =>
      have e := strs_some q
      subst e
      have h1 := h.1
      rw [List.length_map] at h1
      refine ⟨xs, rfl, h1.1, h1.2, ?_⟩
      have h2 := h.2
      rw [List.all_map] at h2
      exact h2
  · cases h
theorem circN_b1 {d : D} (h : b1 d = false) : circN d = none := by
  unfold circN
  split
  · rename_i ds
    split
    · rename_i xs hx
      have e := strs_some hx
      subst e
      rw [if_neg]
      intro hc
      simp only [Bool.and_eq_true] at hc
      have : b1 (.tup (xs.map D.str)) = true := by
        unfold b1
        simp only [List.length_map, List.all_map, Bool.and_eq_true]
        exact ⟨hc.1.1, hc.1.2⟩
      rw [h] at this
      cases this
    · rfl
  · rfl
theorem circN_s {xs : List Str} (h1 : 2 ≤ xs.length) (h2 : xs.length ≤ 6) (h3 : xs.all nmOk = true) : circN (nS xs) = if xs.Nodup then some xs else none := by
  show (match strs? (xs.map D.str) with
    | some xs => if decide (2 ≤ xs.length) && decide (xs.length ≤ 6) && xs.all nmOk && decide xs.Nodup then some xs else none
    | none => none) = _
  rw [strs_map]
  simp only [h1, h2, h3, decide_true, Bool.and_self, Bool.true_and]
  by_cases hn : xs.Nodup <;> simp [hn]
theorem ini1_eq : ini1 = sIf [1, 2] it1 (sRaise [1] "BadNames" (cVar 1)) sPass := rfl
theorem circle_any {j : Nat} (hj : 2 ≤ j) {d : D} (hd : nice d = true) {S : Cells} (hS : ∀ o, o ∈ S → isIntC o = true) : caF tab j ("Circle", some "__init__") [d] S = (match circN d with
    | some xs => .ok (C xs, false) S
    | none => .exn "BadNames" d S) := by
  obtain ⟨i, rfl, hi⟩ := fu hj
  rw [ca_eq t_ini]
  have v1 : viewF [1, 2] 0 (initE 3 [.cel S.length, d]) = [some (.cel S.length), some d, none] := rfl
  cases q : b1 d with
  | false =>
    rw [circN_b1 q]
    refine runI_exn rfl ?_ hS (nice_cfr _ d hd)
    show sSeq ini1 (sSeq ini2 sPass) _ _ _ = _
    unfold sSeq
    rw [ini1_eq]
    unfold sIf
    rw [exT_eq, v1, it1_s hi hd, q]
    rfl
  | true =>
    obtain ⟨xs, rfl, h2, h6, hn⟩ := b1_in q
    rw [circN_s h2 h6 hn]
    have e1 : ini1 (caF tab i) (initE 3 [.cel S.length, nS xs]) (S ++ [.ob "Circle" [] []]) = .ok (.nx (initE 3 [.cel S.length, nS xs])) (S ++ [.ob "Circle" [] []]) := by
      rw [ini1_eq]
      unfold sIf
      rw [exT_eq, v1, it1_s hi hd, q]
      rfl
    have hu : tNotT (tVal (cCall ("are_unlike", none) [] (aOf [cVar 1]))) (caF tab i) (viewF [1] 0 (initE 3 [.cel S.length, nS xs])) (S ++ [.ob "Circle" [] []]) = .ok (!decide xs.Nodup) (S ++ [.ob "Circle" [] []]) := by
      refine tnot_ok (tval_ok (o := false) ?_)
      rw [call1_ok (a := (nS xs, false)) (S1 := S ++ [.ob "Circle" [] []]) rfl]
      show caF tab i ("are_unlike", none) [.tup (xs.map D.str)] _ = _
      rw [are_unlike_g fS (by decide) hi]
    by_cases nd : xs.Nodup
    · rw [if_pos nd]
      refine runI_ok (ρ := initE 3 [.cel S.length, nS xs]) rfl ?_ hS (by simp [selfAt, initE]) ?_ rfl
      · show sSeq ini1 (sSeq ini2 sPass) _ _ _ = _
        rw [sSeq_nx e1]
        have e2 : ini2 (caF tab i) (initE 3 [.cel S.length, nS xs]) (S ++ [.ob "Circle" [] []]) = .ok (.nx (initE 3 [.cel S.length, nS xs])) (S ++ [.ob "Circle" [] []]) := by
          unfold ini2 sIf
          rw [exT_eq, hu]
          simp only [nd, decide_true, Bool.not_true]
          rfl
        rw [sSeq_nx e2]
        rfl
      · have e : cfr S.length (nS xs) = true := nice_cfr _ _ hd
        simp [runB, runF, initE, sSeq, sIf, exT_eq, sRet_eq, ex1_eq, exI_eq, sSet, sExpr, sFor, cOp1, cOp2, cOpn, cCall, aOf_nil, aOf_cons, aCons, aNil, aStar, seqD, cAnd, cOr, cIf, tNotT, tAndT, tOrT, tBl, tVal, cCon, cVar, lift, R.bind_ok, viewF, viewB, giveF, giveB, ownAt, immB, endF, sPass, tru, EV.iVal, itemsD, EV.iRng1, EV.iRng2, EV.iEnuA, EV.iZip, gNot, bB, bI, viewI, e]
    · rw [if_neg nd]
      refine runI_exn rfl ?_ hS (nice_cfr _ _ hd)
      show sSeq ini1 (sSeq ini2 sPass) _ _ _ = _
      rw [sSeq_nx e1]
      unfold sSeq ini2 sIf
      rw [exT_eq, hu]
      simp only [nd, decide_false, Bool.not_false]
      rfl
end Lk01

namespace Lk01
open PySem PySem.Spec PyProof.Rows L2 EV
theorem ch_glue : ∀ xs : List Str, ch (Str.join "" xs) = xs.flatMap ch
  | [] => by decide +kernel
  | [x] => by
    show ch x = _
    simp
  | x :: y :: r => by
    show ch (x ++ "" ++ Str.join "" (y :: r)) = _
    rw [ch_app, ch_app, ch_glue (y :: r)]
    have : ch ("" : Str) = [] := by decide +kernel
    rw [this, List.append_nil]
    rfl
theorem dStrs_map : ∀ xs : List Str, dStrs (xs.map .str) = some xs
  | [] => rfl
  | x :: xs => by simp [dStrs, dStrs_map xs]
theorem dKeys_map : ∀ xs : List Str, dKeys (xs.map .str) = some (xs.map .inr)
  | [] => rfl
  | x :: xs => by simp [dKeys, dKey, dKeys_map xs]
theorem join_le : ∀ {xs : List Str}, (∀ x, x ∈ xs → x.length ≤ 8) → (xs.map (·.length)).sum ≤ xs.length * 8 ∧ (xs.flatMap ch).length ≤ xs.length * 8
  | [], _ => by simp
  | x :: xs, h => by
    have ih := join_le (xs := xs) fun y hy => h y (List.mem_cons_of_mem _ hy)
    have h1 := h x (List.mem_cons_self ..)
    have h2 := shown_len x
    simp only [List.map_cons, List.sum_cons, List.length_cons, List.flatMap_cons, List.length_append]
    omega
theorem join_s {xs : List Str} (hl : xs.length ≤ 6) (h8 : ∀ x, x ∈ xs → x.length ≤ 8) (hs : ∀ x, x ∈ xs → smp x = true) (S : Cells) : gJoin S (.str "") [.tup (xs.map .str)] = some (.str (Str.join "" xs), false) := by
  obtain ⟨l1, l2⟩ := join_le h8
  have e0 : ("" : Str).length = 0 := by decide +kernel
  have l3 : (Str.join "" xs).length ≤ 48 := by
    rw [shown_len, ch_glue]
    omega
  have c1 : cpOk (Str.join "" xs) = true := smp_cp (by
    unfold smp
    rw [ch_glue, List.all_eq_true]
    intro c hc
    obtain ⟨x, hx, hc⟩ := List.mem_flatMap.mp hc
    exact List.all_eq_true.mp (hs x hx) c hc)
  show joinG "" (xs.map .str) = _
  unfold joinG
  rw [dStrs_map]
  have ej : Txt.join "" xs = Str.join "" xs := TL.join_eq "" xs
  simp only [ej, c1, e0, Nat.mul_zero, Nat.add_zero]
  rw [if_pos]
  simp only [Bool.and_true, Bool.and_eq_true, decide_eq_true_eq]
  omega
theorem nodup_inr {xs : List Str} : (xs.map (Sum.inr : Str → Key)).reverse.Nodup ↔ xs.Nodup := by
  rw [(List.reverse_perm (xs.map (Sum.inr : Str → Key))).nodup_iff]
  unfold List.Nodup
  rw [List.pairwise_map]
  exact ⟨fun h => h.imp fun a e => a (by rw [e]), fun h => h.imp fun a e => a (by injection e)⟩
theorem setN_s {xs : List Str} (hl : xs.length ≤ 6) (S : Cells) : gSetN S (.tup (xs.map .str)) = some (.int (EVX.dn (xs.map (Sum.inr : Str → Key)).reverse), false) := by
  show (if (xs.map D.str).length < 4000 then (match dKeys (xs.map D.str) with
    | some ks => some (D.int (EVX.dn ks.reverse), false)
    | none => none) else none) = _
  rw [dKeys_map, if_pos (by rw [List.length_map]; omega)]
theorem set_full {xs : List Str} : decide (((EVX.dn (xs.map (Sum.inr : Str → Key)).reverse : Nat) : Int) = (xs.length : Int)) = decide xs.Nodup := by
  apply decide_eq_decide.mpr
  rw [← nodup_inr, ← EVX.dn_full, List.length_reverse, List.length_map]
  exact Int.ofNat_inj
def an1 : ST := tOrT (tNotT (tVal (cOp1 (gIsT "tuple") (cVar 0)))) (tOrT (tNotT (tBl (cChain dLt dLt (cCon (.int 1)) (cLen pg (cVar 0)) (cCon (.int 7))))) (tNotT (tVal (cOpn bAll (aOf [cComp (EV.iVal (cVar 0)) [1] (.nm 1) tYesT (cOp1 (gIsT "str") (cVar 1))])))))
def an2 : ST := tNotT (tVal (cOpn bAll (aOf [cComp (EV.iVal (cVar 0)) [1] (.nm 1) tYesT (cChain dLt dLt (cCon (.int 0)) (cLen pg (cVar 1)) (cCon (.int 9)))])))
def an3 : ST := tNotT (tVal (cOpn bAll (aOf [cComp (EV.iVal (cMt "str" gJoin (cCon (.str "")) (aOf [cVar 0]))) [2] (.nm 2) tYesT (cOp2 dIn (cVar 2) (cCon (.str "abcdefghijklmnopqrstuvwxyz")))])))
theorem f_an : f_law_are_names = sSeq (sIf [0, 1] an1 (sRet [] (cCon (.bl false))) sPass) (sSeq (sIf [1, 0] an2 (sRet [] (cCon (.bl false))) sPass) (sSeq (sIf [2, 0] an3 (sRet [] (cCon (.bl false))) sPass) (sRet [0] (cOp2 dEq (cOp1 gSetN (cVar 0)) (cLen pg (cVar 0)))))) := rfl
def q1 (d : D) : Bool := match d with
  | .tup ds => decide (2 ≤ ds.length) && decide (ds.length ≤ 6) && ds.all isS
  | _ => false
theorem an1_s {ca : Ca} {d : D} (hd : nice d = true) (S : Cells) : an1 ca [some d, none, none] S = .ok (!q1 d) S := by
  have no : ∀ a, tyD d = some a → tyB a "tuple" = false → an1 ca [some d, none, none] S = .ok true S := fun a h1 h2 => by
    refine tor_t (tnot_ok (b := false) (tval_ok (o := false) (op1_ok (a := (d, false)) (S1 := S) rfl ?_)))
    show gIsT "tuple" S d = _
    unfold gIsT
    rw [h1]
    show bB (tyB a "tuple") = _
    rw [h2]
    rfl
  cases d with
  | tup ds =>
    simp only [nice] at hd
    have hc : cComp (EV.iVal (cVar 0)) [1] (.nm 1) tYesT (cOp1 (gIsT "str") (cVar 1)) ca [some (.tup ds), none, none] S = .ok (.lst (ds.map fun y => .bl (isS y)), true) S :=
      comp_m (fun d => d) ds _ (by simp [EV.iVal, cVar, R.bind_ok, itemsD]) fun y hy => ⟨[some (.tup ds), some y, none], rfl, false, by
        obtain ⟨t, ht⟩ := nice_ty (niceL_mem hd hy)
        refine op1_ok (a := (y, false)) (S1 := S) rfl ?_
        show gIsT "str" S y = _
        unfold gIsT
        rw [ht]
        cases y <;> simp [tyD] at ht <;> subst ht <;> rfl⟩
    have hn := chain_lt (ca := ca) (ρ := [some (.tup ds), none, none]) (S := S) (a := 1) (b := 7) (cLen_tup (f := cVar 0) (ds := ds) (o := false) rfl)
    have e1 : decide ((1 : Int) < ds.length) = decide (2 ≤ ds.length) := decide_eq_decide.mpr (by omega)
    have e2 : decide ((ds.length : Int) < 7) = decide (ds.length ≤ 6) := decide_eq_decide.mpr (by omega)
    rw [e1, e2] at hn
    unfold an1
    show _ = R.ok (!(decide (2 ≤ ds.length) && decide (ds.length ≤ 6) && ds.all isS)) S
    rw [tor_f (S' := S) (tnot_ok (b := true) (tval_ok (o := false) rfl))]
    cases q : decide (2 ≤ ds.length) && decide (ds.length ≤ 6) with
    | false =>
      rw [q] at hn
      exact tor_t (tnot_ok (tbl_ok hn))
    | true =>
      rw [q] at hn
      rw [tor_f (tnot_ok (tbl_ok hn)), Bool.true_and]
      exact tnot_ok (tval_ok (opn1_ok hc (bAll_map S isS ds)))
  | ins _ _ _ => simp [nice] at hd
  | exc _ _ => simp [nice] at hd
  | cel _ => simp [nice] at hd
  | scr _ => simp [nice] at hd
  | non => exact no _ rfl rfl
  | bl _ => exact no _ rfl rfl
  | int _ => exact no _ rfl rfl
  | str _ => exact no _ rfl rfl
  | lst _ => exact no _ rfl rfl
  | dic _ _ => exact no _ rfl rfl
def lnOk (x : Str) : Bool := decide (1 ≤ x.length) && decide (x.length ≤ 8)
theorem an2_s {ca : Ca} (xs : List Str) (S : Cells) : an2 ca [some (nS xs), none, none] S = .ok (!xs.all lnOk) S := by
  have hc : cComp (EV.iVal (cVar 0)) [1] (.nm 1) tYesT (cChain dLt dLt (cCon (.int 0)) (cLen pg (cVar 1)) (cCon (.int 9))) ca [some (nS xs), none, none] S = .ok (.lst (xs.map fun x => .bl (lnOk x)), true) S :=
    comp_m D.str xs _ rfl fun x hx => ⟨[some (nS xs), some (.str x), none], rfl, false, by
      rw [chain_lt (cLen_str (f := cVar 1) (x := x) (o := false) rfl)]
      have e1 : decide ((0 : Int) < x.length) = decide (1 ≤ x.length) := decide_eq_decide.mpr (by omega)
      have e2 : decide ((x.length : Int) < 9) = decide (x.length ≤ 8) := decide_eq_decide.mpr (by omega)
      rw [e1, e2]
      rfl⟩
  exact tnot_ok (tval_ok (opn1_ok hc (bAll_map S lnOk xs)))
theorem an3_s {ca : Ca} {xs : List Str} (hl : xs.length ≤ 6) (h8 : ∀ x, x ∈ xs → x.length ≤ 8) (hs : ∀ x, x ∈ xs → smp x = true) (S : Cells) : an3 ca [some (nS xs), none, none] S = .ok (!(xs.flatMap ch).all ltr) S := by
  have hj : cMt "str" gJoin (cCon (.str "")) (aOf [cVar 0]) ca [some (nS xs), none, none] S = .ok (.str (Str.join "" xs), false) S := by
    have : cMt "str" gJoin (cCon (.str "")) (aOf [cVar 0]) ca [some (nS xs), none, none] S = lift (gJoin S (.str "") [nS xs]) S := rfl
    rw [this, nS, join_s hl h8 hs]
    rfl
  have hc : cComp (EV.iVal (cMt "str" gJoin (cCon (.str "")) (aOf [cVar 0]))) [2] (.nm 2) tYesT (cOp2 dIn (cVar 2) (cCon (.str "abcdefghijklmnopqrstuvwxyz"))) ca [some (nS xs), none, none] S = .ok (.lst ((xs.flatMap ch).map fun c => .bl (ltr c)), true) S := by
    refine comp_m (fun c => D.str ⟨#[c]⟩) (xs.flatMap ch) _ ?_ fun c hc => ⟨[some (nS xs), none, some (.str ⟨#[c]⟩)], rfl, false, rfl⟩
    unfold EV.iVal
    rw [hj]
    show R.ok (chars (Str.join "" xs)) S = _
    unfold chars
    rw [← ch_glue]
    rfl
  exact tnot_ok (tval_ok (opn1_ok hc (bAll_map S ltr (xs.flatMap ch))))
theorem q1_in {d : D} (h : q1 d = true) : ∃ xs, d = nS xs ∧ 2 ≤ xs.length ∧ xs.length ≤ 6 := by
  unfold q1 at h
  split at h
  · rename_i ds
    simp only [Bool.and_eq_true, decide_eq_true_eq] at h
    cases q : strs? ds with
    | none => rw [strs_none q] at h; simp at h
    | some xs =>
      have e := strs_some q
      subst e
      have h1 := h.1
      rw [List.length_map] at h1
      exact ⟨xs, rfl, h1.1, h1.2⟩
  · cases h
theorem q1_no {d : D} (h : q1 d = false) : circN d = none := by
  unfold circN
  split
  · rename_i ds
    split
    · rename_i xs hx
      have e := strs_some hx
      subst e
      rw [if_neg]
      intro hc
      simp only [Bool.and_eq_true] at hc
      have : q1 (.tup (xs.map D.str)) = true := by
        unfold q1
        simp only [List.length_map, List.all_map, Bool.and_eq_true]
        exact ⟨hc.1.1, List.all_eq_true.mpr fun _ _ => rfl⟩
      rw [h] at this
      cases this
    · rfl
  · rfl
theorem nm_split {xs : List Str} : xs.all nmOk = (xs.all lnOk && (xs.flatMap ch).all ltr) := by
  induction xs with
  | nil => rfl
  | cons x xs ih =>
    simp only [List.all_cons, ih, List.flatMap_cons, List.all_append]
    have : nmOk x = (lnOk x && (ch x).all ltr) := rfl
    rw [this]
    cases lnOk x <;> cases (ch x).all ltr <;> cases xs.all lnOk <;> simp
theorem law_are_names_any {j : Nat} (hj : 1 ≤ j) {d : D} (hd : nice d = true) (S : Cells) : caF tab j ("_law_are_names", none) [d] S = .ok (.bl (circN d).isSome, false) S := by
  obtain ⟨i, rfl, hi⟩ := fu hj
  rw [ca_eq t_law_are_names, runB_fn (show [d].length = 1 from rfl), f_an]
  have i1 : initE 3 [d] = [some (d, false), none, none] := rfl
  have v1 : ∀ ms, viewF ms 0 [some (d, false), none, none] = [some d, none, none] := fun ms => rfl
  rw [i1]
  cases k1 : q1 d with
  | false =>
    rw [q1_no k1]
    unfold sSeq sIf
    rw [exT_eq, v1, an1_s hd, k1]
    rfl
  | true =>
    obtain ⟨xs, rfl, h2, h6⟩ := q1_in k1
    have hs : ∀ x, x ∈ xs → smp x = true := fun x hx => by
      simp only [nS, nice] at hd
      have := niceL_mem hd (List.mem_map.mpr ⟨x, hx, rfl⟩)
      simpa only [nice] using this
    have cn : circN (nS xs) = if (xs.all nmOk && decide xs.Nodup) = true then some xs else none := by
      show (match strs? (xs.map D.str) with
        | some xs => if decide (2 ≤ xs.length) && decide (xs.length ≤ 6) && xs.all nmOk && decide xs.Nodup then some xs else none
        | none => none) = _
      rw [strs_map]
      simp only [h2, h6, decide_true, Bool.and_self, Bool.true_and]
    rw [sSeq_nx (S' := S) (ρ' := [some (nS xs, false), none, none]) (by unfold sIf; rw [exT_eq, v1, an1_s hd, k1]; rfl)]
    cases k2 : xs.all lnOk with
    | false =>
      rw [cn, nm_split, k2]
      unfold sSeq sIf
      rw [exT_eq, v1, an2_s, k2]
      rfl
    | true =>
      have h8 : ∀ x, x ∈ xs → x.length ≤ 8 := fun x hx => by
        have := List.all_eq_true.mp k2 x hx
        simp only [lnOk, Bool.and_eq_true, decide_eq_true_eq] at this
        exact this.2
      rw [sSeq_nx (S' := S) (ρ' := [some (nS xs, false), none, none]) (by unfold sIf; rw [exT_eq, v1, an2_s, k2]; rfl)]
      cases k3 : (xs.flatMap ch).all ltr with
      | false =>
        rw [cn, nm_split, k2, k3]
        unfold sSeq sIf
        rw [exT_eq, v1, an3_s h6 h8 hs, k3]
        rfl
      | true =>
        rw [sSeq_nx (S' := S) (ρ' := [some (nS xs, false), none, none]) (by unfold sIf; rw [exT_eq, v1, an3_s h6 h8 hs, k3]; rfl), sRet_eq, v1]
        have e : cOp2 dEq (cOp1 gSetN (cVar 0)) (cLen pg (cVar 0)) (caF tab i) [some (nS xs), none, none] S = .ok (.bl (decide xs.Nodup), false) S := by
          refine op2_ok (a := (.int (EVX.dn (xs.map (Sum.inr : Str → Key)).reverse : Nat), false)) (b := (.int (xs.length : Nat), false)) (S1 := S) (op1_ok (a := (nS xs, false)) (S1 := S) rfl (setN_s h6 S)) (by
            rw [cLen_tup (f := cVar 0) (ds := xs.map D.str) (o := false) rfl, List.length_map]) ?_
          rw [Fa.int.dEq (by decide), set_full]
        rw [e, cn, nm_split, k2, k3]
        cases decide xs.Nodup <;> rfl
end Lk01

namespace Lk01
open PySem PySem.Spec PyProof.Rows L2 EV
theorem heard_x {exs : List Str} {n : Str} {f : SE} {ca : Ca} {ρ : En} {S S' : Cells} {c : Str} {d : D} (ht : S.any (isTb n) = true) (h : f ca ρ S = .exn c d S') (hc : exs.contains c = true) : cHeard exs n f ca ρ S = .ok (.tup [.exc c d, .non], false) S' := by
  unfold cHeard
  rw [ht, h]
  simp only [hc, if_true]
theorem heard_ok {exs : List Str} {n : Str} {f : SE} {ca : Ca} {ρ : En} {S S' : Cells} {b : B} (ht : S.any (isTb n) = true) (h : f ca ρ S = .ok b S') : cHeard exs n f ca ρ S = .ok (.tup [.non, b.1], false) S' := by
  unfold cHeard
  rw [ht, h]
theorem ex_names : pg.excs.contains ("BadNames" : Str) = true := by decide +kernel
theorem ex_lot : pg.excs.contains ("BadLot" : Str) = true := by decide +kernel
theorem val_x {c : Str} {d : D} (S : Cells) (hc : pg.excs.contains c = true) : gAttr pg "value" S (.exc c d) = some (d, false) := by
  show (if (("value" : Str) == ("value" : Str) && pg.excs.contains c) = true then some (d, false) else none) = _
  have : (("value" : Str) == ("value" : Str)) = true := by decide +kernel
  rw [this, hc]
  rfl
theorem is_x {c : Str} {d : D} (S : Cells) (hc : pg.excs.contains c = true) : gIsE pg.excs c S (.exc c d) = some (.bl true, false) := by
  unfold gIsE
  simp only [hc, if_true, subE, beq_self_eq_true, Bool.true_or]
  rfl
/-- the value of what was caught shows as the value itself -/
theorem val_repr {w k : Nat} {d : D} (h : Gd w k d) (hk : k + 1 ≤ 100) (hz : szT w k ≤ 16000000) {f g : SE} {ca : Ca} {ρ : En} {S : Cells} {c : Str} {o o' : Bool} (hc : pg.excs.contains c = true) (hf : f ca ρ S = .ok (.exc c d, o) S) (hg : g ca ρ S = .ok (d, o') S) :
    cOp2 dEq (cOp1 gRepr (cOp1 (gAttr pg "value") f)) (cOp1 gRepr g) ca ρ S = .ok (.bl true, false) S ∧ cOp2 dNe (cOp1 gRepr (cOp1 (gAttr pg "value") f)) (cOp1 gRepr g) ca ρ S = .ok (.bl false, false) S := by
  have e1 : cOp1 gRepr (cOp1 (gAttr pg "value") f) ca ρ S = .ok (.str (toR d).shown, false) S := op1_ok (op1_ok hf (val_x S hc)) (h.repr hk hz S)
  have e2 : cOp1 gRepr g ca ρ S = .ok (.str (toR d).shown, false) S := op1_ok hg (h.repr hk hz S)
  refine ⟨op2_ok e1 e2 ?_, op2_ok e1 e2 ?_⟩
  · rw [repr_eq h.ni h.ni]
    simp
  · rw [repr_ne h.ni h.ni]
    simp
def cr1 : SS := sAsg (.tp [.nm 1, .nm 2]) [0] (cHeard pg.excs "_law_is_circle_right" (cMake "Circle" (aOf [cVar 0])))
def cr2 : SE := cAnd (cOp1 (gIsE pg.excs "BadNames") (cVar 1)) (cOp2 dEq (cOp1 gRepr (cOp1 (gAttr pg "value") (cVar 1))) (cOp1 gRepr (cVar 0)))
def cr3 : SE := cAnd (cOp2 dIs (cVar 1) (cCon .non)) (cAnd (cOp2 dEq (cOp1 (gAttr pg "names") (cVar 2)) (cVar 0)) (cOp2 dEq (cLen pg (cVar 2)) (cLen pg (cVar 0))))
theorem f_cr : f_law_is_circle_right = sSeq cr1 (sSeq (sIf [0] (tNotT (tVal (cCall ("_law_are_names", none) [] (aOf [cVar 0])))) (sRet [1, 0] cr2) sPass) (sRet [1, 2, 0] cr3)) := rfl
theorem circ_in {d : D} {xs : List Str} (h : circN d = some xs) : d = nS xs ∧ xs.length ≤ 6 := by
  unfold circN at h
  split at h
  · rename_i ds
    split at h
    · rename_i ys hy
      have e := strs_some hy
      subst e
      split at h
      · rename_i hc
        simp only [Bool.and_eq_true, decide_eq_true_eq] at hc
        cases h
        exact ⟨rfl, hc.1.1.2⟩
      · cases h
    · cases h
  · cases h
theorem circle_right_any {j : Nat} (hj : 3 ≤ j) {d : D} {w k : Nat} (h : Gd w k d) (hk : k + 1 ≤ 100) (hz : szT w k ≤ 16000000) {S : Cells} (hS : ∀ o, o ∈ S → isIntC o = true) (ht : S.any (isTb "_law_is_circle_right") = true) : caF tab j ("_law_is_circle_right", none) [d] S = .ok (.bl true, false) S := by
  obtain ⟨i, rfl, hi⟩ := fu hj
  rw [ca_eq t_law_is_circle_right, runB_fn (show [d].length = 1 from rfl), f_cr]
  have hm : cMake "Circle" (aOf [cVar 0]) (caF tab i) [some d, none, none] S = caF tab i ("Circle", some "__init__") [d] S := rfl
  have hn : ∀ (a b : Option B), tNotT (tVal (cCall ("_law_are_names", none) [] (aOf [cVar 0]))) (caF tab i) (viewF [0] 0 [some (d, false), a, b]) S = .ok (!(circN d).isSome) S := fun a b => by
    refine tnot_ok (tval_ok (o := false) ?_)
    rw [call1_ok (a := (d, false)) (S1 := S) rfl]
    exact law_are_names_any (by omega) h.ni S
  have cc := circle_any (j := i) hi h.ni hS
  cases q : circN d with
  | none =>
    rw [q] at cc hn
    have e1 : cr1 (caF tab i) (initE 3 [d]) S = .ok (.nx [some (d, false), some (.exc "BadNames" d, false), some (.non, false)]) S := by
      unfold cr1 sAsg
      rw [ex1_eq, show viewF [0] 0 (initE 3 [d]) = [some d, none, none] from rfl, heard_x ht (hm.trans cc) ex_names]
      rfl
    have e2 : cr2 (caF tab i) [some d, some (.exc "BadNames" d), some .non] S = .ok (.bl true, false) S := by
      unfold cr2
      rw [cand_t (op1_ok (a := (.exc "BadNames" d, false)) (S1 := S) rfl (is_x S ex_names))]
      exact (val_repr h hk hz (o := false) (o' := false) ex_names rfl rfl).1
    rw [sSeq_nx e1, sSeq_rt (b := (.bl true, false)) (S' := S) (by
      rw [sIf_yes (hn _ _), sRet_eq, show viewF [1, 0] 0 [some (d, false), some (D.exc "BadNames" d, false), some (D.non, false)] = [some d, some (.exc "BadNames" d), some .non] from rfl, e2]
      rfl)]
    rfl
  | some xs =>
    obtain ⟨rfl, h6⟩ := circ_in q
    rw [q] at cc hn
    have e1 : cr1 (caF tab i) (initE 3 [nS xs]) S = .ok (.nx [some (nS xs, false), some (.non, false), some (C xs, false)]) S := by
      unfold cr1 sAsg
      rw [ex1_eq, show viewF [0] 0 (initE 3 [nS xs]) = [some (nS xs), none, none] from rfl, heard_ok ht (hm.trans cc)]
      rfl
    rw [sSeq_nx e1, sSeq_nx (S' := S) (ρ' := [some (nS xs, false), some (.non, false), some (C xs, false)]) (sIf_no (hn _ _)), sRet_eq, show viewF [1, 2, 0] 0 [some (nS xs, false), some (D.non, false), some (C xs, false)] = [some (nS xs), some .non, some (C xs)] from rfl]
    have e2 : cr3 (caF tab i) [some (nS xs), some .non, some (C xs)] S = .ok (.bl true, false) S := by
      unfold cr3
      rw [cand_t (S' := S) (o := false) rfl, cand_t (S' := S) (o := false) (op2_ok (a := (nS xs, false)) (b := (nS xs, false)) (S1 := S) (op1_ok (a := (C xs, false)) (S1 := S) rfl (at_names S xs)) rfl (by rw [fN.dEq (by decide)]; simp))]
      refine op2_ok (a := (.int xs.length, false)) (b := (.int xs.length, false)) (S1 := S) (cLen_C (by omega) h6 rfl) ?_ ?_
      · rw [cLen_tup (f := cVar 0) (ds := xs.map D.str) (o := false) rfl, List.length_map]
      · rw [Fa.int.dEq (by decide)]
        simp
    rw [e2]
    rfl
end Lk01

namespace Lk01
open PySem PySem.Spec PyProof.Rows L2 EV
/-! ### lots among values of any kind -/
def lotD (ns : List Str) (d : D) : Bool := match d with
  | .tup ds => (match strs? ds with
    | some xs => isLot ns xs
    | none => false)
  | _ => false
theorem word_isS {ds : List D} {ns : List Str} (h : ds.all isS = false) : ds.all (fun d => wordIn d ns) = false := by
  cases q : ds.all (fun d => wordIn d ns) with
  | false => rfl
  | true =>
    have : ds.all isS = true := List.all_eq_true.mpr fun d hd => by
      have := List.all_eq_true.mp q d hd
      cases d <;> simp [wordIn] at this <;> rfl
    rw [h] at this
    cases this
theorem is_lot_any {j : Nat} (hj : 2 ≤ j) {ns : List Str} {d : D} (hd : nice d = true) (S : Cells) : caF tab j ("is_lot", none) [C ns, d] S = .ok (.bl (lotD ns d), false) S := by
  have no : ∀ a, tyD d = some a → tyB a "tuple" = false → caF tab j ("is_lot", none) [C ns, d] S = .ok (.bl false, false) S := fun a h1 h2 => by
    obtain ⟨i, rfl, hi⟩ := fu hj
    rw [ca_eq t_is_lot]
    simp [runB, runF, initE, sSeq, sIf, exT_eq, sRet_eq, ex1_eq, exI_eq, sSet, sExpr, sFor, cOp1, cOp2, cOpn, cCall, aOf_nil, aOf_cons, aCons, aNil, aStar, seqD, cAnd, cOr, cIf, tNotT, tAndT, tOrT, tBl, tVal, cCon, cVar, lift, R.bind_ok, viewF, viewB, giveF, giveB, ownAt, immB, endF, sPass, tru, EV.iVal, itemsD, EV.iRng1, EV.iRng2, EV.iEnuA, EV.iZip, gNot, bB, bI, f_is_lot, is_tuple_no hi h1 h2]
  cases d with
  | tup ds =>
    simp only [lotD]
    cases q : strs? ds with
    | some xs =>
      have := strs_some q
      subst this
      exact is_lot_s hj ns xs S
    | none =>
      obtain ⟨i, rfl, hi⟩ := fu hj
      simp only [nice] at hd
      have hc : cComp (EV.iVal (cVar 1)) [2] (.nm 2) tYesT (cCall ("is_word", none) [] (aOf [cVar 2, cOp1 (gAttr pg "names") (cVar 0)])) (caF tab i) [some (C ns), some (.tup ds), none] S = .ok (.lst (ds.map fun y => .bl (wordIn y ns)), true) S :=
        comp_m (fun d => d) ds _ (by simp [EV.iVal, cVar, R.bind_ok, itemsD]) fun y hy => ⟨_, rfl, false, by
          simp [runB, runF, initE, sSeq, sIf, exT_eq, sRet_eq, ex1_eq, exI_eq, sSet, sExpr, sFor, cOp1, cOp2, cOpn, cCall, aOf_nil, aOf_cons, aCons, aNil, aStar, seqD, cAnd, cOr, cIf, tNotT, tAndT, tOrT, tBl, tVal, cCon, cVar, lift, R.bind_ok, viewF, viewB, giveF, giveB, ownAt, immB, endF, sPass, tru, EV.iVal, itemsD, EV.iRng1, EV.iRng2, EV.iEnuA, EV.iZip, gNot, bB, bI, wipeE, at_names, is_word_any hi (niceL_mem hd hy)]⟩
      have ht : caF tab i ("is_tuple", none) [.tup ds, .int 0, .non] S = .ok (.bl true, false) S := by
        rw [is_tuple_n hi]
        simp
      have ha : ds.all (fun d => wordIn d ns) = false := word_isS (strs_none q)
      rw [ca_eq t_is_lot]
      simp only [runB, runF, initE, sSeq, sIf, exT_eq, sRet_eq, ex1_eq, exI_eq, sSet, sExpr, sFor, cOp1, cOp2, cOpn, cCall, aOf_nil, aOf_cons, aCons, aNil, aStar, seqD, cAnd, cOr, cIf, tNotT, tAndT, tOrT, tBl, tVal, cCon, cVar, lift, R.bind_ok, viewF, viewB, giveF, giveB, ownAt, immB, endF, sPass, tru, EV.iVal, itemsD, EV.iRng1, EV.iRng2, EV.iEnuA, EV.iZip, gNot, bB, bI, f_is_lot, hc, ht, bAll_map, ha, List.map_cons, List.map_nil, List.length_cons, List.length_nil, List.getElem?_cons_succ, List.getElem?_cons_zero, List.replicate, List.cons_append, List.nil_append, List.append_nil, if_true, Nat.reduceAdd, Nat.reduceSub]
      rfl
  | ins _ _ _ => simp [nice] at hd
  | exc _ _ => simp [nice] at hd
  | cel _ => simp [nice] at hd
  | scr _ => simp [nice] at hd
  | non => exact no _ rfl rfl
  | bl _ => exact no _ rfl rfl
  | int _ => exact no _ rfl rfl
  | str _ => exact no _ rfl rfl
  | lst _ => exact no _ rfl rfl
  | dic _ _ => exact no _ rfl rfl
theorem law_is_lot_any {j : Nat} (hj : 2 ≤ j) {ns : List Str} {d : D} (hd : nice d = true) (S : Cells) : caF tab j ("_law_is_lot", none) [nS ns, d] S = .ok (.bl (lotD ns d), false) S := by
  have no : ∀ a, tyD d = some a → tyB a "tuple" = false → caF tab j ("_law_is_lot", none) [nS ns, d] S = .ok (.bl false, false) S := fun a h1 h2 => by
    obtain ⟨i, rfl, hi⟩ := fu hj
    rw [ca_eq t_law_is_lot]
    simp [runB, runF, initE, sSeq, sIf, exT_eq, sRet_eq, ex1_eq, exI_eq, sSet, sExpr, sFor, cOp1, cOp2, cOpn, cCall, aOf_nil, aOf_cons, aCons, aNil, aStar, seqD, cAnd, cOr, cIf, tNotT, tAndT, tOrT, tBl, tVal, cCon, cVar, lift, R.bind_ok, viewF, viewB, giveF, giveB, ownAt, immB, endF, sPass, tru, EV.iVal, itemsD, EV.iRng1, EV.iRng2, EV.iEnuA, EV.iZip, gNot, bB, bI, f_law_is_lot, gIsT, h1, h2]
  cases d with
  | tup ds =>
    simp only [lotD]
    cases q : strs? ds with
    | some xs =>
      have := strs_some q
      subst this
      exact law_is_lot_s hj ns xs S
    | none =>
      obtain ⟨i, rfl, hi⟩ := fu hj
      simp only [nice] at hd
      have hc : cComp (EV.iVal (cVar 1)) [2] (.nm 2) tYesT (cOp1 (gIsT "str") (cVar 2)) (caF tab i) [some (nS ns), some (.tup ds), none] S = .ok (.lst (ds.map fun y => .bl (isS y)), true) S :=
        comp_m (fun d => d) ds _ (by simp [EV.iVal, cVar, R.bind_ok, itemsD]) fun y hy => ⟨_, rfl, false, by
          obtain ⟨t, ht⟩ := nice_ty (niceL_mem hd hy)
          refine op1_ok (a := (y, false)) (S1 := S) rfl ?_
          show gIsT "str" S y = _
          unfold gIsT
          rw [ht]
          cases y <;> simp [tyD] at ht <;> subst ht <;> rfl⟩
      have ha : ds.all isS = false := strs_none q
      have hg : gIsT "tuple" S (.tup ds) = some (.bl true, false) := rfl
      rw [ca_eq t_law_is_lot]
      simp only [runB, runF, initE, sSeq, sIf, exT_eq, sRet_eq, ex1_eq, exI_eq, sSet, sExpr, sFor, cOp1, cOp2, cOpn, cCall, aOf_nil, aOf_cons, aCons, aNil, aStar, seqD, cAnd, cOr, cIf, tNotT, tAndT, tOrT, tBl, tVal, cCon, cVar, lift, R.bind_ok, viewF, viewB, giveF, giveB, ownAt, immB, endF, sPass, tru, EV.iVal, itemsD, EV.iRng1, EV.iRng2, EV.iEnuA, EV.iZip, gNot, bB, bI, f_law_is_lot, hc, hg, bAll_map, ha, List.map_cons, List.map_nil, List.length_cons, List.length_nil, List.getElem?_cons_succ, List.getElem?_cons_zero, List.replicate, List.cons_append, List.nil_append, List.append_nil, if_true, Nat.reduceAdd, Nat.reduceSub]
      rfl
  | ins _ _ _ => simp [nice] at hd
  | exc _ _ => simp [nice] at hd
  | cel _ => simp [nice] at hd
  | scr _ => simp [nice] at hd
  | non => exact no _ rfl rfl
  | bl _ => exact no _ rfl rfl
  | int _ => exact no _ rfl rfl
  | str _ => exact no _ rfl rfl
  | lst _ => exact no _ rfl rfl
  | dic _ _ => exact no _ rfl rfl

theorem t_rest : tab ("Circle", some "rest") = some (.fn ⟨2, 3, sSeq (sExpr [0, 1] (cCall ("check_lot", none) [] (aOf [cVar 0, cVar 1]))) (sRet [2, 0, 1] (cOpn bTuple (aOf [cComp (EV.iVal (cOp1 (gAttr pg "own_names") (cVar 0))) [2] (.nm 2) (tBl (cOp2 dNotIn (cVar 2) (cVar 1))) (cVar 2)])))⟩) := by kernel_rfl
def lt1 : ST := tOrT (tNotT (tVal (cCall ("is_tuple", none) [.int 0, .non] (aOf [cVar 1])))) (tNotT (tVal (cOpn bAll (aOf [cComp (EV.iVal (cVar 1)) [2] (.nm 2) tYesT (cCall ("is_word", none) [] (aOf [cVar 2, cOp1 (gAttr pg "own_names") (cVar 0)]))]))))
theorem t_lot : tab ("Circle", some "lot") = some (.fn ⟨2, 3, sSeq (sIf [1, 2, 0] lt1 (sRaise [1] "BadNames" (cVar 1)) sPass) (sRet [0, 1] (cCall ("lot_of", none) [] (aOf [cOp1 (gAttr pg "own_names") (cVar 0), cVar 1])))⟩) := by kernel_rfl
theorem t_eq : tab ("Circle", some "__eq__") = some (.fn ⟨2, 2, sRet [1, 0] (cAnd (cOp1 (gIsC "Circle") (cVar 1)) (cOp2 dEq (cOp1 (gAttr pg "own_names") (cVar 0)) (cOp1 (gAttr pg "own_names") (cVar 1))))⟩) := by kernel_rfl
theorem t_has : tab ("Circle", some "__contains__") = some (.fn ⟨2, 2, sRet [1, 0] (cCall ("is_word", none) [] (aOf [cVar 1, cOp1 (gAttr pg "own_names") (cVar 0)]))⟩) := by kernel_rfl
theorem mt_of (ns : List Str) : mtOk pg "rest" 2 (C ns) = some (("Circle" : Str), []) ∧ mtOk pg "lot" 2 (C ns) = some (("Circle" : Str), []) ∧ mtOk pg "__eq__" 2 (C ns) = some (("Circle" : Str), []) ∧ mtOk pg "__contains__" 2 (C ns) = some (("Circle" : Str), []) := ⟨by kernel_rfl, by kernel_rfl, by kernel_rfl, by kernel_rfl⟩
theorem check_lot_any {j : Nat} (hj : 3 ≤ j) {ns : List Str} {d : D} (hd : nice d = true) (S : Cells) : caF tab j ("check_lot", none) [C ns, d] S = if lotD ns d then .ok (.non, false) S else .exn "BadLot" d S := by
  obtain ⟨i, rfl, hi⟩ := fu hj
  rw [ca_eq t_check_lot, runB_fn (show [C ns, d].length = 2 from rfl)]
  have ht : tNotT (tVal (cCall ("is_lot", none) [] (aOf [cVar 0, cVar 1]))) (caF tab i) (viewF [0, 1] 0 (initE 2 [C ns, d])) S = .ok (!lotD ns d) S := by
    refine tnot_ok (tval_ok (o := false) ?_)
    rw [call2_ok (a := (C ns, false)) (b := (d, false)) (S1 := S) (S2 := S) rfl rfl]
    exact is_lot_any hi hd S
  unfold f_check_lot
  cases q : lotD ns d with
  | true =>
    rw [q] at ht
    rw [sIf_no ht]
    rfl
  | false =>
    rw [q] at ht
    rw [sIf_yes ht]
    rfl
theorem lot_in {ns : List Str} {b : D} (h : lotD ns b = true) : ∃ y, b = nS y ∧ isLot ns y = true := by
  unfold lotD at h
  split at h
  · rename_i ds
    split at h
    · rename_i xs hx
      have e := strs_some hx
      subst e
      exact ⟨xs, rfl, h⟩
    · cases h
  · cases h
theorem lotD_s (ns x : List Str) : lotD ns (nS x) = isLot ns x := by
  show (match strs? (x.map D.str) with
    | some xs => isLot ns xs
    | none => false) = _
  rw [strs_map]
theorem rest_any {j : Nat} (hj : 4 ≤ j) {ns : List Str} {d : D} (hd : nice d = true) (S : Cells) : (lotD ns d = false → caF tab j ("Circle", some "rest") [C ns, d] S = .exn "BadLot" d S) ∧ (∀ x, d = nS x → isLot ns x = true → caF tab j ("Circle", some "rest") [C ns, d] S = .ok (nS (ns.filter fun a => !decide (a ∈ x)), false) S) := by
  obtain ⟨i, rfl, hi⟩ := fu hj
  rw [ca_eq t_rest]
  have hc : cCall ("check_lot", none) [] (aOf [cVar 0, cVar 1]) (caF tab i) (viewF [0, 1] 0 (initE 3 [C ns, d])) S = if lotD ns d then .ok (.non, false) S else .exn "BadLot" d S := by
    rw [call2_ok (a := (C ns, false)) (b := (d, false)) (S1 := S) (S2 := S) rfl rfl]
    exact check_lot_any hi hd S
  refine ⟨fun h => ?_, fun x e hx => ?_⟩
  · rw [h] at hc
    rw [runB_fn (show [C ns, d].length = 2 from rfl)]
    unfold sSeq sExpr
    rw [ex1_eq, hc]
    rfl
  · subst e
    rw [lotD_s, hx] at hc
    rw [runB_fn (show [C ns, nS x].length = 2 from rfl), sSeq_nx (S' := S) (ρ' := initE 3 [C ns, nS x]) (by unfold sExpr; rw [ex1_eq, hc]; rfl), sRet_eq]
    have hm : cComp (EV.iVal (cOp1 (gAttr pg "own_names") (cVar 0))) [2] (.nm 2) (tBl (cOp2 dNotIn (cVar 2) (cVar 1))) (cVar 2) (caF tab i) [some (C ns), some (nS x), none] S = .ok (.lst ((ns.filter fun a => !decide (a ∈ x)).map D.str), true) S :=
      comp_e D.str ns (fun a => !decide (a ∈ x)) D.str (by
        unfold EV.iVal
        rw [op1_ok (a := (C ns, false)) (S1 := S) rfl (at_own S ns)]
        rfl) fun a ha => ⟨[some (C ns), some (nS x), some (.str a)], rfl, tbl_ok (o := false) (op2_ok (a := (.str a, false)) (b := (nS x, false)) (S1 := S) rfl rfl (fS.ninT (by decide) S a x)), fun _ => ⟨false, rfl⟩⟩
    have hv : viewF [2, 0, 1] 0 (initE 3 [C ns, nS x]) = [some (C ns), some (nS x), none] := rfl
    rw [hv, opn1_ok (r := (nS (ns.filter fun a => !decide (a ∈ x)), false)) hm rfl]
    rfl
theorem both_any {j : Nat} (hj : 4 ≤ j) {ns : List Str} {d : D} (hd : nice d = true) {y : List Str} (hy : isLot ns y = true) (hn : nice (nS y) = true) (S : Cells) : (lotD ns d = false → caF tab j ("both", none) [C ns, d, nS y] S = .exn "BadLot" d S) ∧ (∀ x, d = nS x → isLot ns x = true → caF tab j ("both", none) [C ns, d, nS y] S = .ok (nS (x.filter fun a => decide (a ∈ y)), false) S) := by
  obtain ⟨i, rfl, hi⟩ := fu hj
  rw [ca_eq t_both]
  have hc : cCall ("check_lot", none) [] (aOf [cVar 0, cVar 1]) (caF tab i) (viewF [0, 1] 0 (initE 3 [C ns, d, nS y])) S = if lotD ns d then .ok (.non, false) S else .exn "BadLot" d S := by
    rw [call2_ok (a := (C ns, false)) (b := (d, false)) (S1 := S) (S2 := S) rfl rfl]
    exact check_lot_any hi hd S
  have hc2 : cCall ("check_lot", none) [] (aOf [cVar 0, cVar 2]) (caF tab i) (viewF [0, 2] 0 (initE 3 [C ns, d, nS y])) S = .ok (.non, false) S := by
    rw [call2_ok (a := (C ns, false)) (b := (nS y, false)) (S1 := S) (S2 := S) rfl rfl]
    show caF tab i ("check_lot", none) [C ns, nS y] S = _
    rw [check_lot_any hi hn, lotD_s, hy]
    rfl
  unfold f_both
  refine ⟨fun h => ?_, fun x e hx => ?_⟩
  · rw [h] at hc
    rw [runB_fn (show [C ns, d, nS y].length = 3 from rfl)]
    unfold sSeq sExpr
    rw [ex1_eq, hc]
    rfl
  · subst e
    rw [lotD_s, hx] at hc
    rw [runB_fn (show [C ns, nS x, nS y].length = 3 from rfl), sSeq_nx (S' := S) (ρ' := initE 3 [C ns, nS x, nS y]) (by unfold sExpr; rw [ex1_eq, hc]; rfl), sSeq_nx (S' := S) (ρ' := initE 3 [C ns, nS x, nS y]) (by unfold sExpr; rw [ex1_eq, hc2]; rfl), sRet_eq]
    rw [call2_ok (a := (nS x, false)) (b := (nS y, false)) (S1 := S) (S2 := S) rfl rfl]
    show ((caF tab i ("lot_of", none) [nS x, nS y] S).bind _).bind _ = _
    rw [lot_of_s (by omega)]
    rfl
theorem either_any {j : Nat} (hj : 4 ≤ j) {ns : List Str} (h6 : ns.length ≤ 6) {d : D} (hd : nice d = true) {x : List Str} (hx : isLot ns x = true) (hn : nice (nS x) = true) (S : Cells) : (lotD ns d = false → caF tab j ("either", none) [C ns, nS x, d] S = .exn "BadLot" d S) ∧ (∀ y, d = nS y → isLot ns y = true → caF tab j ("either", none) [C ns, nS x, d] S = .ok (nS (ns.filter fun a => decide (a ∈ x ++ y)), false) S) := by
  obtain ⟨i, rfl, hi⟩ := fu hj
  rw [ca_eq t_either]
  have hc : cCall ("check_lot", none) [] (aOf [cVar 0, cVar 1]) (caF tab i) (viewF [0, 1] 0 (initE 3 [C ns, nS x, d])) S = .ok (.non, false) S := by
    rw [call2_ok (a := (C ns, false)) (b := (nS x, false)) (S1 := S) (S2 := S) rfl rfl]
    show caF tab i ("check_lot", none) [C ns, nS x] S = _
    rw [check_lot_any hi hn, lotD_s, hx]
    rfl
  have hc2 : cCall ("check_lot", none) [] (aOf [cVar 0, cVar 2]) (caF tab i) (viewF [0, 2] 0 (initE 3 [C ns, nS x, d])) S = if lotD ns d then .ok (.non, false) S else .exn "BadLot" d S := by
    rw [call2_ok (a := (C ns, false)) (b := (d, false)) (S1 := S) (S2 := S) rfl rfl]
    exact check_lot_any hi hd S
  unfold f_either
  rw [runB_fn (show [C ns, nS x, d].length = 3 from rfl), sSeq_nx (S' := S) (ρ' := initE 3 [C ns, nS x, d]) (by unfold sExpr; rw [ex1_eq, hc]; rfl)]
  refine ⟨fun h => ?_, fun y e hy => ?_⟩
  · rw [h] at hc2
    unfold sSeq sExpr
    rw [ex1_eq, hc2]
    rfl
  · subst e
    rw [lotD_s, hy] at hc2
    rw [sSeq_nx (S' := S) (ρ' := initE 3 [C ns, nS x, nS y]) (by unfold sExpr; rw [ex1_eq, hc2]; rfl), sRet_eq]
    have ht : cOpn gTupN (aStar (cVar 1) (aStar (cVar 2) aNil)) (caF tab i) (viewF [0, 1, 2] 0 (initE 3 [C ns, nS x, nS y])) S = .ok (nS (x ++ y), false) S := by
      have : cOpn gTupN (aStar (cVar 1) (aStar (cVar 2) aNil)) (caF tab i) (viewF [0, 1, 2] 0 (initE 3 [C ns, nS x, nS y])) S = lift (gTupN S (x.map D.str ++ (y.map D.str ++ []))) S := rfl
      have l1 := lot_len hx
      have l2 := lot_len hy
      rw [this, List.append_nil, ← List.map_append]
      unfold gTupN
      rw [if_pos (by simp; omega)]
      rfl
    rw [call2_ok (a := (nS ns, false)) (b := (nS (x ++ y), false)) (S1 := S) (S2 := S) (op1_ok (a := (C ns, false)) (S1 := S) rfl (at_names S ns)) ht]
    show ((caF tab i ("lot_of", none) [nS ns, nS (x ++ y)] S).bind _).bind _ = _
    rw [lot_of_s (by omega)]
    rfl
end Lk01

namespace Lk01
open PySem PySem.Spec PyProof.Rows L2 EV
theorem call1d_ok {k : Fk} {dfl : List D} {f : SE} {ca : Ca} {ρ : En} {S S1 : Cells} {a : B} (h : f ca ρ S = .ok a S1) : cCall k dfl (aOf [f]) ca ρ S = ca k (a.1 :: dfl) S1 := by
  simp [cCall, aOf_cons, aOf_nil, aCons, aNil, h, R.bind_ok]
/-! ### the circle's methods -/
def wdB (ns : List Str) (d : D) : Bool := match d with
  | .tup ds => ds.all fun y => wordIn y ns
  | _ => false
theorem wd_in {ns : List Str} {d : D} (h : wdB ns d = true) : ∃ xs, d = nS xs := by
  unfold wdB at h
  split at h
  · rename_i ds
    cases q : strs? ds with
    | none => rw [word_isS (strs_none q)] at h; cases h
    | some xs => exact ⟨xs, by rw [strs_some q]; rfl⟩
  · cases h
theorem lt1_s {i : Nat} (hi : 1 ≤ i) {ns : List Str} {d : D} (hd : nice d = true) (S : Cells) : lt1 (caF tab i) [some (C ns), some d, none] S = .ok (!wdB ns d) S := by
  have no : ∀ a, tyD d = some a → tyB a "tuple" = false → lt1 (caF tab i) [some (C ns), some d, none] S = .ok true S := fun a h1 h2 => by
    refine tor_t (tnot_ok (b := false) (tval_ok (o := false) ?_))
    rw [call1d_ok (a := (d, false)) (S1 := S) rfl]
    exact is_tuple_no hi h1 h2 _ _ S
  cases d with
  | tup ds =>
    simp only [nice] at hd
    have ht : tVal (cCall ("is_tuple", none) [.int 0, .non] (aOf [cVar 1])) (caF tab i) [some (C ns), some (.tup ds), none] S = .ok true S := by
      refine tval_ok (o := false) ?_
      rw [call1d_ok (a := (.tup ds, false)) (S1 := S) rfl]
      show caF tab i ("is_tuple", none) [.tup ds, .int 0, .non] S = _
      rw [is_tuple_n hi]
      simp
    have hc : cComp (EV.iVal (cVar 1)) [2] (.nm 2) tYesT (cCall ("is_word", none) [] (aOf [cVar 2, cOp1 (gAttr pg "own_names") (cVar 0)])) (caF tab i) [some (C ns), some (.tup ds), none] S = .ok (.lst (ds.map fun y => .bl (wordIn y ns)), true) S :=
      comp_m (fun d => d) ds _ (by simp [EV.iVal, cVar, R.bind_ok, itemsD]) fun y hy => ⟨[some (C ns), some (.tup ds), some y], rfl, false, by
        rw [call2_ok (a := (y, false)) (b := (nS ns, false)) (S1 := S) (S2 := S) rfl (op1_ok (a := (C ns, false)) (S1 := S) rfl (at_own S ns))]
        exact is_word_any hi (niceL_mem hd hy) ns S⟩
    unfold lt1
    rw [tor_f (tnot_ok ht)]
    exact tnot_ok (tval_ok (opn1_ok hc (bAll_map S (fun y => wordIn y ns) ds)))
  | ins _ _ _ => simp [nice] at hd
  | exc _ _ => simp [nice] at hd
  | cel _ => simp [nice] at hd
  | scr _ => simp [nice] at hd
  | non => exact no _ rfl rfl
  | bl _ => exact no _ rfl rfl
  | int _ => exact no _ rfl rfl
  | str _ => exact no _ rfl rfl
  | lst _ => exact no _ rfl rfl
  | dic _ _ => exact no _ rfl rfl
theorem lot_any {j : Nat} (hj : 2 ≤ j) {ns : List Str} {d : D} (hd : nice d = true) (S : Cells) : (wdB ns d = false → caF tab j ("Circle", some "lot") [C ns, d] S = .exn "BadNames" d S) ∧ (∀ x, d = nS x → wdB ns d = true → caF tab j ("Circle", some "lot") [C ns, d] S = .ok (nS (ns.filter fun a => decide (a ∈ x)), false) S) := by
  obtain ⟨i, rfl, hi⟩ := fu hj
  rw [ca_eq t_lot]
  have hv : ∀ ms, viewF ms 0 (initE 3 [C ns, d]) = [some (C ns), some d, none] := fun ms => rfl
  refine ⟨fun h => ?_, fun x e hx => ?_⟩
  · rw [runB_fn (show [C ns, d].length = 2 from rfl)]
    have e1 : sIf [1, 2, 0] lt1 (sRaise [1] "BadNames" (cVar 1)) sPass (caF tab i) (initE 3 [C ns, d]) S = .exn "BadNames" d S := by
      rw [sIf_yes (S' := S) (by rw [hv, lt1_s hi hd, h]; rfl)]
      rfl
    unfold sSeq
    rw [e1]
    rfl
  · subst e
    rw [runB_fn (show [C ns, nS x].length = 2 from rfl), sSeq_nx (sIf_no (S' := S) (by rw [hv, lt1_s hi hd, hx]; rfl)), sRet_eq, hv]
    rw [call2_ok (a := (nS ns, false)) (b := (nS x, false)) (S1 := S) (S2 := S) (op1_ok (a := (C ns, false)) (S1 := S) rfl (at_own S ns)) rfl]
    show ((caF tab i ("lot_of", none) [nS ns, nS x] S).bind _).bind _ = _
    rw [lot_of_s hi]
    rfl
theorem eq_C {j : Nat} (hj : 1 ≤ j) (ns ms : List Str) (S : Cells) : caF tab j ("Circle", some "__eq__") [C ns, C ms] S = .ok (.bl (decide (ns = ms)), false) S := by
  obtain ⟨i, rfl, hi⟩ := fu hj
  rw [ca_eq t_eq, runB_fn (show [C ns, C ms].length = 2 from rfl), sRet_eq]
  have hv : viewF [1, 0] 0 (initE 2 [C ns, C ms]) = [some (C ns), some (C ms)] := rfl
  have h1 : gIsC "Circle" S (C ms) = some (.bl true, false) := by kernel_rfl
  rw [hv, cand_t (op1_ok (a := (C ms, false)) (S1 := S) rfl h1), op2_ok (a := (nS ns, false)) (b := (nS ms, false)) (S1 := S) (op1_ok (a := (C ns, false)) (S1 := S) rfl (at_own S ns)) (op1_ok (a := (C ms, false)) (S1 := S) rfl (at_own S ms)) (fN.dEq (by decide) S ns ms)]
  rfl
theorem eq_no {j : Nat} (hj : 1 ≤ j) (ns : List Str) {d : D} (hd : nice d = true) (S : Cells) : caF tab j ("Circle", some "__eq__") [C ns, d] S = .ok (.bl false, false) S := by
  obtain ⟨i, rfl, hi⟩ := fu hj
  rw [ca_eq t_eq, runB_fn (show [C ns, d].length = 2 from rfl), sRet_eq]
  have hv : viewF [1, 0] 0 (initE 2 [C ns, d]) = [some (C ns), some d] := rfl
  have h1 : gIsC "Circle" S d = some (.bl false, false) := by
    cases d <;> first | rfl | simp [nice] at hd
  rw [hv, cand_f (op1_ok (a := (d, false)) (S1 := S) rfl h1)]
  rfl
theorem has_s {j : Nat} (hj : 2 ≤ j) (ns : List Str) (x : Str) (S : Cells) : caF tab j ("Circle", some "__contains__") [C ns, .str x] S = .ok (.bl (decide (x ∈ ns)), false) S := by
  obtain ⟨i, rfl, hi⟩ := fu hj
  rw [ca_eq t_has, runB_fn (show [C ns, D.str x].length = 2 from rfl), sRet_eq]
  rw [call2_ok (a := (.str x, false)) (b := (nS ns, false)) (S1 := S) (S2 := S) rfl (op1_ok (a := (C ns, false)) (S1 := S) rfl (at_own S ns))]
  show ((caF tab i ("is_word", none) [.str x, nS ns] S).bind _).bind _ = _
  rw [is_word_s hi]
  rfl
/-! ### what is no lot is refused -/
theorem meth1 {m : Str} {i : Nat} {f g : SE} {ρ : En} {S : Cells} {ns : List Str} {d : D} {o o' : Bool} (hm : mtOk pg m 2 (C ns) = some (("Circle" : Str), [])) (hf : f (caF tab i) ρ S = .ok (C ns, o) S) (hg : g (caF tab i) ρ S = .ok (d, o') S) : cMeth pg m 1 f (aOf [g]) (caF tab i) ρ S = caF tab i ("Circle", some m) [C ns, d] S := by
  unfold cMeth
  rw [hf]
  simp only [R.bind_ok, hm, aOf_cons, aOf_nil, aCons, aNil, hg, List.append_nil]
def due (ns : List Str) (d : D) : D := if lotD ns d then .non else .exc "BadLot" d
def dE (ns : List Str) (d : D) (l : List D) : SEn := [some (nS ns, false), some (C ns, false), some (d, false), some (.lst l, true), none]
def d1 : SE := cOp2 dIx (cHeard pg.excs "_law_is_lot_due" (cMeth pg "rest" 1 (cVar 1) (aOf [cVar 2]))) (cCon (.int 0))
def d2 : SE := cOp2 dIx (cHeard pg.excs "_law_is_lot_due" (cCall ("both", none) [] (aOf [cVar 1, cVar 2, cOpn gTupN (aOf [])]))) (cCon (.int 0))
def d3 : SE := cOp2 dIx (cHeard pg.excs "_law_is_lot_due" (cCall ("either", none) [] (aOf [cVar 1, cOpn gTupN (aOf []), cVar 2]))) (cCon (.int 0))
def d4 : SE := cAnd (cOp1 (gIsE pg.excs "BadLot") (cVar 4)) (cOp2 dEq (cOp1 gRepr (cOp1 (gAttr pg "value") (cVar 4))) (cOp1 gRepr (cVar 2)))
theorem f_due : f_law_is_lot_due = sSeq (sSet 3 [1, 2] (cOpn gLstN (aOf [d1]))) (sSeq (sApp 3 [1, 2] d2) (sSeq (sApp 3 [1, 2] d3) (sSeq (sIf [0, 2] (tVal (cCall ("_law_is_lot", none) [] (aOf [cVar 0, cVar 2]))) (sRet [3] (cOp2 dEq (cVar 3) (cOpn gLstN (aOf [cCon .non, cCon .non, cCon .non])))) sPass) (sRet [4, 2, 3] (cOpn bAll (aOf [cComp (EV.iVal (cVar 3)) [4] (.nm 4) tYesT d4])))))) := rfl
theorem ix0 (S : Cells) (x : D) (xs : List D) : dIx S (.tup (x :: xs)) (.int 0) = some (x, false) := by simp [dIx, ixD, atI, ixN]
/-- what was caught of a call that raises just for what is no lot -/
theorem due_of {ns : List Str} {d : D} {f : SE} {i : Nat} {ρ : En} {S : Cells} (ht : S.any (isTb "_law_is_lot_due") = true) (h1 : lotD ns d = false → f (caF tab i) ρ S = .exn "BadLot" d S) (h2 : ∀ x, d = nS x → isLot ns x = true → ∃ b, f (caF tab i) ρ S = .ok b S) :
    cOp2 dIx (cHeard pg.excs "_law_is_lot_due" f) (cCon (.int 0)) (caF tab i) ρ S = .ok (due ns d, false) S := by
  unfold due
  cases q : lotD ns d with
  | false => exact op2_ok (heard_x ht (h1 q) ex_lot) rfl (ix0 S _ _)
  | true =>
    obtain ⟨x, e, hx⟩ := lot_in q
    obtain ⟨b, hb⟩ := h2 x e hx
    exact op2_ok (heard_ok ht hb) rfl (ix0 S _ _)
theorem lot_nil (ns : List Str) : isLot ns [] = true := by
  unfold isLot
  exact decide_eq_true (by simp)
theorem lot_due_any {j : Nat} (hj : 5 ≤ j) {ns : List Str} (h6 : ns.length ≤ 6) {d : D} {w k : Nat} (h : Gd w k d) (hk : k + 1 ≤ 100) (hz : szT w k ≤ 16000000) {S : Cells} (ht : S.any (isTb "_law_is_lot_due") = true) : caF tab j ("_law_is_lot_due", none) [nS ns, C ns, d] S = .ok (.bl true, false) S := by
  obtain ⟨i, rfl, hi⟩ := fu hj
  rw [ca_eq t_law_is_lot_due, runB_fn (show [nS ns, C ns, d].length = 3 from rfl), f_due]
  have n0 : nice (nS []) = true := rfl
  have e1 : d1 (caF tab i) [some (nS ns), some (C ns), some d, none, none] S = .ok (due ns d, false) S := by
    have m := meth1 (i := i) (f := cVar 1) (g := cVar 2) (ρ := [some (nS ns), some (C ns), some d, none, none]) (S := S) (d := d) (mt_of ns).1 (o := false) (o' := false) rfl rfl
    exact due_of ht (fun q => m.trans ((rest_any hi h.ni S).1 q)) fun x e hx => ⟨_, m.trans ((rest_any hi h.ni S).2 x e hx)⟩
  have e2 : d2 (caF tab i) [some (nS ns), some (C ns), some d, none, none] S = .ok (due ns d, false) S := by
    have m : cCall ("both", none) [] (aOf [cVar 1, cVar 2, cOpn gTupN (aOf [])]) (caF tab i) [some (nS ns), some (C ns), some d, none, none] S = caF tab i ("both", none) [C ns, d, nS []] S := call3_ok (a := (C ns, false)) (b := (d, false)) (d := (nS [], false)) (S1 := S) (S2 := S) (S3 := S) rfl rfl rfl
    exact due_of ht (fun q => m.trans ((both_any hi h.ni (lot_nil ns) n0 S).1 q)) fun x e hx => ⟨_, m.trans ((both_any hi h.ni (lot_nil ns) n0 S).2 x e hx)⟩
  have e3 : d3 (caF tab i) [some (nS ns), some (C ns), some d, none, none] S = .ok (due ns d, false) S := by
    have m : cCall ("either", none) [] (aOf [cVar 1, cOpn gTupN (aOf []), cVar 2]) (caF tab i) [some (nS ns), some (C ns), some d, none, none] S = caF tab i ("either", none) [C ns, nS [], d] S := call3_ok (a := (C ns, false)) (b := (nS [], false)) (d := (d, false)) (S1 := S) (S2 := S) (S3 := S) rfl rfl rfl
    exact due_of ht (fun q => m.trans ((either_any hi h6 h.ni (lot_nil ns) n0 S).1 q)) fun x e hx => ⟨_, m.trans ((either_any hi h6 h.ni (lot_nil ns) n0 S).2 x e hx)⟩
  have s1 : sSet 3 [1, 2] (cOpn gLstN (aOf [d1])) (caF tab i) (initE 5 [nS ns, C ns, d]) S = .ok (.nx (dE ns d [due ns d])) S := by
    unfold sSet
    rw [ex1_eq, show viewF [1, 2] 0 (initE 5 [nS ns, C ns, d]) = [some (nS ns), some (C ns), some d, none, none] from rfl, opn1_ok (r := (.lst [due ns d], true)) e1 rfl]
    rfl
  have v2 : ∀ l, viewF [1, 2] 0 (dE ns d l) = [some (nS ns), some (C ns), some d, none, none] := fun l => rfl
  rw [sSeq_nx s1, sSeq_nx (sApp_own (as := [due ns d]) (d := due ns d) (o := false) (S' := S) rfl (by rw [v2]; exact e2) rfl (by simp))]
  rw [sSeq_nx (sApp_own (as := [due ns d] ++ [due ns d]) (d := due ns d) (o := false) (S' := S) rfl (by exact e3) rfl (by simp))]
  show (sSeq _ _ (caF tab i) (dE ns d [due ns d, due ns d, due ns d]) S).bind _ = _
  have hl : tVal (cCall ("_law_is_lot", none) [] (aOf [cVar 0, cVar 2])) (caF tab i) (viewF [0, 2] 0 (dE ns d [due ns d, due ns d, due ns d])) S = .ok (lotD ns d) S := by
    refine tval_ok (o := false) ?_
    rw [call2_ok (a := (nS ns, false)) (b := (d, false)) (S1 := S) (S2 := S) rfl rfl]
    exact law_is_lot_any (by omega) h.ni S
  cases q : lotD ns d with
  | true =>
    rw [q] at hl
    have ed : due ns d = .non := by unfold due; rw [q]; rfl
    rw [sSeq_rt (b := (.bl true, false)) (S' := S) (by
      rw [sIf_yes hl, sRet_eq, ed]
      rfl)]
    rfl
  | false =>
    rw [q] at hl
    have ed : due ns d = .exc "BadLot" d := by unfold due; rw [q]; rfl
    rw [sSeq_nx (sIf_no hl), sRet_eq, ed]
    have hv : viewF [4, 2, 3] 0 (dE ns d [.exc "BadLot" d, .exc "BadLot" d, .exc "BadLot" d]) = [some (nS ns), some (C ns), some d, some (.lst [.exc "BadLot" d, .exc "BadLot" d, .exc "BadLot" d]), none] := rfl
    have hc : cComp (EV.iVal (cVar 3)) [4] (.nm 4) tYesT d4 (caF tab i) [some (nS ns), some (C ns), some d, some (.lst [.exc "BadLot" d, .exc "BadLot" d, .exc "BadLot" d]), none] S = .ok (.lst ([(), (), ()].map fun _ => D.bl true), true) S :=
      comp_m (fun _ : Unit => D.exc "BadLot" d) [(), (), ()] (fun _ => D.bl true) rfl fun y _ => ⟨[some (nS ns), some (C ns), some d, some (.lst [.exc "BadLot" d, .exc "BadLot" d, .exc "BadLot" d]), some (.exc "BadLot" d)], rfl, false, by
        unfold d4
        rw [cand_t (op1_ok (a := (.exc "BadLot" d, false)) (S1 := S) rfl (is_x S ex_lot))]
        exact (val_repr h hk hz (o := false) (o' := false) ex_lot rfl rfl).1⟩
    rw [hv, opn1_ok (r := (.bl true, false)) hc rfl]
    rfl
end Lk01

namespace Lk01
open PySem PySem.Spec PyProof.Rows L2 EV
theorem dr : Drw tab pg := ⟨fun j hj => takes hj, by kernel_rfl⟩
theorem t_odd' : tab ("_law_odd", none) = some (.fn ⟨1, 2, oddForm⟩) := by kernel_rfl
theorem t_bent' : tab ("_law_bent", none) = some (.fn ⟨2, 3, bentForm pg⟩) := by kernel_rfl
theorem any_names {ns : List Str} (N : Names ns) {x : List Str} (hx : ∀ a, a ∈ x → a ∈ ns) (hl : x.length ≤ 7) : Pl 7 1 (nS x) := pl_tup (by simp; omega) fun d hd => by
  obtain ⟨a, ha, rfl⟩ := List.mem_map.mp hd
  have hp : (pool.all fun a => smp a && decide ((ch a).length ≤ 30)) = true := by decide +kernel
  have := List.all_eq_true.mp hp a (N.pl a (hx a ha))
  simp only [Bool.and_eq_true, decide_eq_true_eq] at this
  exact ⟨gd_str this.1 (by omega), rfl⟩
theorem ns_pl {ns : List Str} (N : Names ns) : Pl 7 1 (nS ns) := any_names N (fun _ h => h) (by have := N.h6; omega)
theorem lot_sub {ns x : List Str} (h : isLot ns x = true) : ∀ a, a ∈ x → a ∈ ns := fun a ha => of_decide_eq_true (List.all_eq_true.mp (isLot_sub h) a ha)
theorem lot_pl {ns : List Str} (N : Names ns) {x : List Str} (hx : x ∈ lots ns) : Pl 7 1 (nS x) := by
  have h := (mem_lots N.toNm).mp hx
  have h6 := N.h6
  have := lot_len h
  exact any_names N (lot_sub h) (by omega)
theorem law_both_s {j : Nat} (hj : 1 ≤ j) (ns xs : List Str) (S : Cells) : caF tab j ("_law_both", none) [nS ns, nS xs] S = .ok (nS (ns.filter fun x => decide (x ∈ xs)), false) S := by
  obtain ⟨i, rfl, hi⟩ := fu hj
  rw [ca_eq t_law_both]
  have hc : cComp (EV.iVal (cVar 0)) [2] (.nm 2) (tBl (cOp2 dIn (cVar 2) (cVar 1))) (cVar 2) (caF tab i) [some (nS ns), some (nS xs), none] S = .ok (.lst ((ns.filter fun x => decide (x ∈ xs)).map D.str), true) S :=
    comp_e D.str ns (fun x => decide (x ∈ xs)) D.str rfl fun a ha => ⟨[some (nS ns), some (nS xs), some (.str a)], rfl, tbl_ok (o := false) (op2_ok (a := (.str a, false)) (b := (nS xs, false)) (S1 := S) rfl rfl (fS.inT (by decide) S a xs)), fun _ => ⟨false, rfl⟩⟩
  rw [runB_fn (show [nS ns, nS xs].length = 2 from rfl)]
  unfold f_law_both
  rw [sRet_eq, show viewF [2, 0, 1] 0 (initE 3 [nS ns, nS xs]) = [some (nS ns), some (nS xs), none] from rfl, opn1_ok (r := (nS (ns.filter fun x => decide (x ∈ xs)), false)) hc rfl]
  rfl
theorem all_strs {ns : List Str} : ∀ {ds : List D}, (∀ d, d ∈ ds → ∃ x, x ∈ ns ∧ d = .str x) → ∃ xs : List Str, ds = xs.map D.str ∧ ∀ x, x ∈ xs → x ∈ ns
  | [], _ => ⟨[], rfl, fun _ h => nomatch h⟩
  | d :: ds, h => by
    obtain ⟨x, hx, rfl⟩ := h d (List.mem_cons_self ..)
    obtain ⟨xs, rfl, hxs⟩ := all_strs (ds := ds) fun e he => h e (List.mem_cons_of_mem _ he)
    exact ⟨x :: xs, rfl, fun y hy => by
      rcases List.mem_cons.mp hy with rfl | hy
      · exact hx
      · exact hxs y hy⟩
/-! ### lots that are made of others -/
def lrE (c : Nat) (ns x y : List Str) (s : Option B) : SEn := [some (.cel c, false), some (nS ns, false), some (C ns, false), some (nS x, false), some (nS y, false), s, none, none]
def lrV (c : Nat) (ns x y : List Str) (s : Option D) : En := [some (.cel c), some (nS ns), some (C ns), some (nS x), some (nS y), s, none, none]
def lr1 : SS := sPar [3, 4] [([0, 1], cCall ("_law_a_lot", none) [] (aOf [cVar 0, cVar 1, cCon (.int 0)])), ([0, 1], cCall ("_law_a_lot", none) [] (aOf [cVar 0, cVar 1, cCon (.int 0)]))]
def lr2 : SE := cComp (EV.iRng1 (cCall ("_law_take", none) [] (aOf [cVar 0, cCon (.int 8)]))) [6] (.nm 6) tYesT (cCall ("_law_of", none) [] (aOf [cVar 0, cVar 1]))
def lr3 : SE := cOp2 dNe (cMeth pg "lot" 1 (cVar 2) (aOf [cVar 5])) (cCall ("_law_lot_of", none) [] (aOf [cVar 1, cVar 5]))
def lr4 : SE := cOp2 dNe (cMeth pg "rest" 1 (cVar 2) (aOf [cVar 3])) (cOpn bTuple (aOf [cComp (EV.iVal (cVar 1)) [7] (.nm 7) (tBl (cOp2 dNotIn (cVar 7) (cVar 3))) (cVar 7)]))
def lr5 : SE := cOp2 dEq (cOpn gTupN (aOf [cCall ("both", none) [] (aOf [cVar 2, cVar 3, cVar 4]), cCall ("either", none) [] (aOf [cVar 2, cVar 3, cVar 4])])) (cOpn gTupN (aOf [cCall ("_law_both", none) [] (aOf [cVar 3, cVar 4]), cCall ("_law_lot_of", none) [] (aOf [cVar 1, cOp2 dAdd (cVar 3) (cVar 4)])]))
theorem f_lr : f_law_are_lots_right = sSeq lr1 (sSeq (sSet 5 [0, 1] (cOpn bTuple (aOf [lr2]))) (sSeq (sIf [2, 5, 1] (tBl lr3) (sRet [] (cCon (.bl false))) sPass) (sSeq (sIf [2, 3, 7, 1] (tBl lr4) (sRet [] (cCon (.bl false))) sPass) (sRet [2, 3, 4, 1] lr5)))) := rfl
theorem lots_right_s {j : Nat} (hj : 5 ≤ j) {ns : List Str} (N : Names ns) {c : Nat} {L : Shp} {M : Int} {S : Cells} (p : Ps c L M S) (hM : M < 2 ^ 36) : ∃ S', caF tab j ("_law_are_lots_right", none) [.cel c, nS ns, C ns] S = .ok (.bl true, false) S' ∧ Ps c L (M + 40) S' := by
  obtain ⟨i, rfl, hi⟩ := fu hj
  have h2 := N.h2
  have h6 := N.h6
  obtain ⟨x, S1, x1, x2, _, x4⟩ := law_a_lot_s (j := i) (by omega) N.toNm (few := 0) (by decide) (by decide) p (by omega)
  obtain ⟨y, S2, y1, y2, _, y4⟩ := law_a_lot_s (j := i) (by omega) N.toNm (few := 0) (by decide) (by decide) x4 (by omega)
  obtain ⟨r, S3, t1, t2, t3, t4⟩ := takes (j := i) (by omega) c L (M + 10 + 10) 8 S2 y4 (by omega) (by decide) (by decide)
  obtain ⟨n, hn⟩ : ∃ n : Nat, r = n := ⟨r.toNat, by omega⟩
  subst hn
  have it : EV.iRng1 (cCall ("_law_take", none) [] (aOf [cVar 0, cCon (.int 8)])) (caF tab i) (lrV c ns x y none) S2 = .ok ((List.range n).map fun i : Nat => D.int (i : Nat)) S3 := iRng1_n (o := false) (by
    rw [call2_ok (a := (.cel c, false)) (b := (.int 8, false)) (S1 := S2) (S2 := S2) rfl rfl]
    exact t1) (by omega)
  obtain ⟨ds, S4, c1, c2, c3, c4⟩ := comp_any (it := EV.iRng1 (cCall ("_law_take", none) [] (aOf [cVar 0, cCon (.int 8)]))) (vs := [6]) (pt := .nm 6) (e := cCall ("_law_of", none) [] (aOf [cVar 0, cVar 1])) (ca := caF tab i) (ρ := lrV c ns x y none) (S0 := S2) (fun i : Nat => D.int (i : Nat)) (List.range n) (fun d => ∃ a, a ∈ ns ∧ d = .str a) (fun k S => Ps c L (M + 10 + 10 + 1 + k) S) it (by simpa using t4) (fun k z S hk hz hP => by
    rw [List.length_range] at hk
    obtain ⟨d, S', o1, o2, o3⟩ := of_s dr (j := i) (by omega) hP (by omega) (ds := ns.map D.str) (by rw [List.length_map]; omega) (by rw [List.length_map]; omega) (v := nS ns) (.inr rfl)
    obtain ⟨a, ha, rfl⟩ := List.mem_map.mp o2
    refine ⟨lrV c ns x y none |>.set 6 (some (.int (z : Nat))), .str a, false, S', rfl, ?_, ⟨a, ha, rfl⟩, ?_⟩
    · rw [call2_ok (a := (.cel c, false)) (b := (nS ns, false)) (S1 := S) (S2 := S) rfl rfl]
      exact o1
    · have : M + 10 + 10 + 1 + ((k + 1 : Nat) : Int) = M + 10 + 10 + 1 + (k : Int) + 1 := by omega
      rw [this]
      exact o3)
  obtain ⟨zs, rfl, hzs⟩ := all_strs c2
  have lz : zs.length = n := by simpa using c3
  rw [List.length_range] at c4
  have lx := (mem_lots N.toNm).mp x2
  have ly := (mem_lots N.toNm).mp y2
  refine ⟨S4, ?_, c4.mono (by omega)⟩
  rw [ca_eq t_law_are_lots_right, runB_fn (show [D.cel c, nS ns, C ns].length = 3 from rfl), f_lr]
  have e1 : lr1 (caF tab i) (initE 8 [.cel c, nS ns, C ns]) S = .ok (.nx (lrE c ns x y none)) S2 := by
    have a1 : cCall ("_law_a_lot", none) [] (aOf [cVar 0, cVar 1, cCon (.int 0)]) (caF tab i) (viewF [0, 1] 0 ((initE 8 [.cel c, nS ns, C ns]).take 8)) S = .ok (nS x, false) S1 := by
      rw [call3_ok (a := (.cel c, false)) (b := (nS ns, false)) (d := (.int 0, false)) (S1 := S) (S2 := S) (S3 := S) rfl rfl rfl]
      exact x1
    have a2 : cCall ("_law_a_lot", none) [] (aOf [cVar 0, cVar 1, cCon (.int 0)]) (caF tab i) (viewF [0, 1] 0 ((initE 8 [.cel c, nS ns, C ns] ++ [some (nS x, false)]).take 8)) S1 = .ok (nS y, false) S2 := by
      rw [call3_ok (a := (.cel c, false)) (b := (nS ns, false)) (d := (.int 0, false)) (S1 := S1) (S2 := S1) (S3 := S1) rfl rfl rfl]
      exact y1
    have ln : (initE 8 [.cel c, nS ns, C ns]).length = 8 := rfl
    unfold lr1 sPar
    rw [ln, parE_cons a1 rfl, parE_cons a2 rfl]
    rfl
  have e2 : sSet 5 [0, 1] (cOpn bTuple (aOf [lr2])) (caF tab i) (lrE c ns x y none) S2 = .ok (.nx (lrE c ns x y (some (nS zs, false)))) S4 := by
    unfold sSet
    have hv : viewF [0, 1] 0 (lrE c ns x y none) = lrV c ns x y none := rfl
    have c1' : lr2 (caF tab i) (lrV c ns x y none) S2 = .ok (.lst (zs.map D.str), true) S4 := c1
    rw [ex1_eq, hv, opn1_ok (g := bTuple) (f := lr2) (r := (nS zs, false)) c1' rfl]
    rfl
  have nz : nice (nS zs) = true := (any_names N hzs (by omega)).ni
  have wz : wdB ns (nS zs) = true := by
    show (zs.map D.str).all (fun y => wordIn y ns) = true
    rw [List.all_map, List.all_eq_true]
    exact fun a ha => decide_eq_true (hzs a ha)
  have hv : ∀ ms, viewF ms 0 (lrE c ns x y (some (nS zs, false))) = lrV c ns x y (some (nS zs)) := fun ms => rfl
  have e3 : lr3 (caF tab i) (lrV c ns x y (some (nS zs))) S4 = .ok (.bl false, false) S4 := by
    refine op2_ok (a := (nS (ns.filter fun a => decide (a ∈ zs)), false)) (b := (nS (ns.filter fun a => decide (a ∈ zs)), false)) (S1 := S4) ?_ ?_ (by rw [fN.dNe (by decide)]; simp)
    · rw [meth1 (mt_of ns).2.1 (o := false) (o' := false) rfl rfl]
      exact (lot_any (by omega) nz S4).2 zs rfl wz
    · rw [call2_ok (a := (nS ns, false)) (b := (nS zs, false)) (S1 := S4) (S2 := S4) rfl rfl]
      exact law_lot_of_s (by omega) ns zs S4
  have e4 : lr4 (caF tab i) (lrV c ns x y (some (nS zs))) S4 = .ok (.bl false, false) S4 := by
    have hm : cComp (EV.iVal (cVar 1)) [7] (.nm 7) (tBl (cOp2 dNotIn (cVar 7) (cVar 3))) (cVar 7) (caF tab i) (lrV c ns x y (some (nS zs))) S4 = .ok (.lst ((ns.filter fun a => !decide (a ∈ x)).map D.str), true) S4 :=
      comp_e D.str ns (fun a => !decide (a ∈ x)) D.str rfl fun a ha => ⟨lrV c ns x y (some (nS zs)) |>.set 7 (some (.str a)), rfl, tbl_ok (o := false) (op2_ok (a := (.str a, false)) (b := (nS x, false)) (S1 := S4) rfl rfl (fS.ninT (by decide) S4 a x)), fun _ => ⟨false, rfl⟩⟩
    refine op2_ok (a := (nS (ns.filter fun a => !decide (a ∈ x)), false)) (b := (nS (ns.filter fun a => !decide (a ∈ x)), false)) (S1 := S4) ?_ (opn1_ok hm rfl) (by rw [fN.dNe (by decide)]; simp)
    rw [meth1 (mt_of ns).1 (o := false) (o' := false) rfl rfl]
    exact (rest_any hi (lot_pl N x2).ni S4).2 x rfl lx
  have e5 : lr5 (caF tab i) (lrV c ns x y (some (nS zs))) S4 = .ok (.bl true, false) S4 := by
    have b1 : cCall ("both", none) [] (aOf [cVar 2, cVar 3, cVar 4]) (caF tab i) (lrV c ns x y (some (nS zs))) S4 = .ok (nS (x.filter fun a => decide (a ∈ y)), false) S4 := by
      rw [call3_ok (a := (C ns, false)) (b := (nS x, false)) (d := (nS y, false)) (S1 := S4) (S2 := S4) (S3 := S4) rfl rfl rfl]
      exact (both_any hi (lot_pl N x2).ni ly (lot_pl N y2).ni S4).2 x rfl lx
    have b2 : cCall ("either", none) [] (aOf [cVar 2, cVar 3, cVar 4]) (caF tab i) (lrV c ns x y (some (nS zs))) S4 = .ok (nS (ns.filter fun a => decide (a ∈ x ++ y)), false) S4 := by
      rw [call3_ok (a := (C ns, false)) (b := (nS x, false)) (d := (nS y, false)) (S1 := S4) (S2 := S4) (S3 := S4) rfl rfl rfl]
      exact (either_any hi h6 (lot_pl N y2).ni lx (lot_pl N x2).ni S4).2 y rfl ly
    have b3 : cCall ("_law_both", none) [] (aOf [cVar 3, cVar 4]) (caF tab i) (lrV c ns x y (some (nS zs))) S4 = .ok (nS (x.filter fun a => decide (a ∈ y)), false) S4 := by
      rw [call2_ok (a := (nS x, false)) (b := (nS y, false)) (S1 := S4) (S2 := S4) rfl rfl]
      exact law_both_s (by omega) x y S4
    have b0 : cOp2 dAdd (cVar 3) (cVar 4) (caF tab i) (lrV c ns x y (some (nS zs))) S4 = .ok (nS (x ++ y), false) S4 := by
      have l1 := lot_len lx
      have l2 := lot_len ly
      refine op2_ok (a := (nS x, false)) (b := (nS y, false)) (S1 := S4) rfl rfl ?_
      have : x.length + y.length ≤ 16777216 := by omega
      simp [dAdd, nS, this]
    have b4 : cCall ("_law_lot_of", none) [] (aOf [cVar 1, cOp2 dAdd (cVar 3) (cVar 4)]) (caF tab i) (lrV c ns x y (some (nS zs))) S4 = .ok (nS (ns.filter fun a => decide (a ∈ x ++ y)), false) S4 := by
      rw [call2_ok (a := (nS ns, false)) (b := (nS (x ++ y), false)) (S1 := S4) (S2 := S4) rfl b0]
      exact law_lot_of_s (by omega) ns (x ++ y) S4
    have two : ∀ {f g : SE} {u v : List Str}, f (caF tab i) (lrV c ns x y (some (nS zs))) S4 = .ok (nS u, false) S4 → g (caF tab i) (lrV c ns x y (some (nS zs))) S4 = .ok (nS v, false) S4 → cOpn gTupN (aOf [f, g]) (caF tab i) (lrV c ns x y (some (nS zs))) S4 = .ok (nF [u, v], false) S4 := fun {f g u v} h1 h2 => by
      simp [cOpn, aOf_cons, aOf_nil, aCons, aNil, h1, h2, R.bind_ok, lift, gTupN, nF]
    refine op2_ok (two b1 b2) (two b3 b4) ?_
    rw [fF.dEq (by decide)]
    simp
  rw [sSeq_nx e1, sSeq_nx e2, sSeq_nx (sIf_no (S' := S4) (by rw [hv]; exact tbl_ok e3)), sSeq_nx (sIf_no (S' := S4) (by rw [hv]; exact tbl_ok e4)), sRet_eq, hv, e5]
  rfl
end Lk01

namespace Lk01
open PySem PySem.Spec PyProof.Rows L2 EV
def rE (c : Nat) (ns x : List Str) (a4 a5 a8 a9 a11 a12 : Option B) : SEn := [some (.cel c, false), some (nS ns, false), some (C ns, false), some (nS x, false), a4, a5, none, none, a8, a9, none, a11, a12]
def rV (c : Nat) (ns x : List Str) (a4 a5 a8 a9 a11 a12 : Option D) : En := [some (.cel c), some (nS ns), some (C ns), some (nS x), a4, a5, none, none, a8, a9, none, a11, a12]
theorem own_eq {i : Nat} (hi : 1 ≤ i) {ns ms : List Str} {f g : SE} {ρ : En} {S : Cells} {o o' neg : Bool} (hf : f (caF tab i) ρ S = .ok (C ns, o) S) (hg : g (caF tab i) ρ S = .ok (C ms, o') S) : cOwn (eqR pg neg) f g (caF tab i) ρ S = .ok (.bl (decide (ns = ms) != neg), false) S := by
  unfold cOwn
  rw [hf]
  simp only [R.bind_ok, hg]
  unfold eqR
  rw [(mt_of ns).2.2.1]
  have z : ownZ ("Circle" : Str) (C ms) = true := by kernel_rfl
  simp only [z, if_true, eq_C hi]
  rfl
theorem own_no {i : Nat} (hi : 1 ≤ i) {ns : List Str} {d : D} (hd : nice d = true) {f g : SE} {ρ : En} {S : Cells} {o o' : Bool} (hf : f (caF tab i) ρ S = .ok (C ns, o) S) (hg : g (caF tab i) ρ S = .ok (d, o') S) : cOwn (eqR pg false) f g (caF tab i) ρ S = .ok (.bl false, false) S := by
  unfold cOwn
  rw [hf]
  simp only [R.bind_ok, hg]
  unfold eqR
  rw [(mt_of ns).2.2.1]
  have z : ownZ ("Circle" : Str) d = true := by
    cases d <;> first | rfl | simp [nice] at hd
  simp only [z, if_true, eq_no hi ns hd]
  rfl
theorem own_in {i : Nat} (hi : 2 ≤ i) {ns : List Str} {a : Str} {f g : SE} {ρ : En} {S : Cells} {o o' : Bool} (hf : f (caF tab i) ρ S = .ok (.str a, o) S) (hg : g (caF tab i) ρ S = .ok (C ns, o') S) : cOwn (EV.inR pg false) f g (caF tab i) ρ S = .ok (.bl (decide (a ∈ ns)), false) S := by
  unfold cOwn
  rw [hf]
  simp only [R.bind_ok, hg]
  unfold EV.inR
  rw [(mt_of ns).2.2.2]
  simp only [has_s hi ns a S]
  unfold blR
  simp
theorem ne_b (S : Cells) (a b : Bool) : dNe S (.bl a) (.bl b) = some (.bl (a != b), false) := by cases a <;> cases b <;> rfl
theorem eq_b (S : Cells) (a b : Bool) : dEq S (.bl a) (.bl b) = some (.bl (a == b), false) := by cases a <;> cases b <;> rfl
/-! names and the circle, a lot -/
theorem r1_s {i : Nat} (hi : 3 ≤ i) {c : Nat} {L : Shp} {M : Int} {S : Cells} (p : Ps c L M S) (hM : M < 2 ^ 36) :
    ∃ ns S', sSet 1 [0] (cCall ("_law_names", none) [] (aOf [cVar 0, cCon (.int 2), cCon (.int 6)])) (caF tab i) (initE 13 [.cel c]) S = .ok (.nx (some (.cel c, false) :: some (nS ns, false) :: List.replicate 11 none)) S' ∧ Names ns ∧ Ps c L (M + 7) S' := by
  obtain ⟨ns, S1, n1, n2, n3⟩ := law_names_s (j := i) hi p (by omega)
  refine ⟨ns, S1, ?_, n2, n3⟩
  unfold sSet
  rw [ex1_eq, call3_ok (a := (.cel c, false)) (b := (.int 2, false)) (d := (.int 6, false)) (S1 := S) (S2 := S) (S3 := S) rfl rfl rfl, n1]
  rfl
theorem r2_s {i : Nat} (hi : 4 ≤ i) {ns : List Str} (N : Names ns) {c : Nat} {L : Shp} {M : Int} {S : Cells} (p : Ps c L M S) (hM : M < 2 ^ 36) :
    ∃ x S', sPar [2, 3] [([1], cMake "Circle" (aOf [cVar 1])), ([0, 1], cCall ("_law_a_lot", none) [] (aOf [cVar 0, cVar 1, cCon (.int 1)]))] (caF tab i) (some (.cel c, false) :: some (nS ns, false) :: List.replicate 11 none) S = .ok (.nx (rE c ns x none none none none none none)) S' ∧ x ∈ lots ns ∧ x ≠ [] ∧ Ps c L (M + 10) S' := by
  obtain ⟨x, S1, f1, f2, f3, f4⟩ := law_a_lot_s (j := i) (by omega) N.toNm (few := 1) (by decide) (by decide) p (by omega)
  refine ⟨x, S1, ?_, f2, f3 (by decide), f4⟩
  have cs := circle_s (j := i) (by omega) N p.itc
  have e1 : cMake "Circle" (aOf [cVar 1]) (caF tab i) (viewF [1] 0 ((some (D.cel c, false) :: some (nS ns, false) :: List.replicate 11 none : SEn).take 13)) S = .ok (C ns, false) S := by
    have v : viewF [1] 0 ((some (D.cel c, false) :: some (nS ns, false) :: List.replicate 11 none : SEn).take 13) = some (.cel c) :: some (nS ns) :: List.replicate 11 none := rfl
    rw [v]
    unfold cMake
    simp only [runB, runF, initE, sSeq, sIf, exT_eq, sRet_eq, ex1_eq, exI_eq, sSet, sExpr, sFor, cOp1, cOp2, cOpn, cCall, aOf_nil, aOf_cons, aCons, aNil, aStar, seqD, cAnd, cOr, cIf, tNotT, tAndT, tOrT, tBl, tVal, cCon, cVar, lift, R.bind_ok, viewF, viewB, giveF, giveB, ownAt, immB, endF, sPass, tru, EV.iVal, itemsD, EV.iRng1, EV.iRng2, EV.iEnuA, EV.iZip, gNot, bB, bI, List.getElem?_cons_succ, List.getElem?_cons_zero, cs]
  have e2 : cCall ("_law_a_lot", none) [] (aOf [cVar 0, cVar 1, cCon (.int 1)]) (caF tab i) (viewF [0, 1] 0 (((some (D.cel c, false) :: some (nS ns, false) :: List.replicate 11 none : SEn) ++ [some (C ns, false)]).take 13)) S = .ok (nS x, false) S1 := by
    rw [call3_ok (a := (.cel c, false)) (b := (nS ns, false)) (d := (.int 1, false)) (S1 := S) (S2 := S) (S3 := S) rfl rfl rfl]
    exact f1
  have ln : (some (D.cel c, false) :: some (nS ns, false) :: List.replicate 11 none : SEn).length = 13 := rfl
  unfold sPar
  rw [ln, parE_cons e1 rfl, parE_cons e2 rfl]
  rfl
theorem lots_s {j : Nat} (hj : 2 ≤ j) {ns : List Str} (n : Nn ns) (S : Cells) : caF tab j ("lots", none) [C ns] S = .ok (nF (lots ns), false) S := by
  obtain ⟨i, rfl, hi⟩ := fu hj
  rw [ca_eq t_lots, runB_fn (show [C ns].length = 1 from rfl)]
  unfold f_lots
  have h : cCall ("lots_of", none) [] (aOf [cOp1 (gAttr pg "names") (cVar 0)]) (caF tab i) (viewF [0] 0 (initE 1 [C ns])) S = .ok (nL (lots ns), false) S := by
    rw [call1_ok (a := (nS ns, false)) (S1 := S) (op1_ok (a := (C ns, false)) (S1 := S) rfl (at_names S ns))]
    exact lots_of_s hi n.h2 n.h6 S
  rw [sRet_eq, opn1_ok (r := (nF (lots ns), false)) h (bTuple_nL S _)]
  rfl
section
variable {i : Nat} {ns x : List Str} {c : Nat}
def s3a : SE := cOpn gTupN (aOf [cOp1 (gAttr pg "names") (cVar 2), cLen pg (cVar 2), cCall ("lots", none) [] (aOf [cVar 2])])
def s3b : SE := cOpn gTupN (aOf [cVar 1, cLen pg (cVar 1), cOpn bTuple (aOf [cCall ("_law_all_lots", none) [] (aOf [cVar 1])])])
theorem tup3 {f g h : SE} {ca : Ca} {ρ : En} {S : Cells} {a b d : B} (hf : f ca ρ S = .ok a S) (hg : g ca ρ S = .ok b S) (hh : h ca ρ S = .ok d S) : cOpn gTupN (aOf [f, g, h]) ca ρ S = .ok (.tup [a.1, b.1, d.1], false) S := by
  simp [cOpn, aOf_cons, aOf_nil, aCons, aNil, hf, hg, hh, R.bind_ok, lift, gTupN]
theorem r3_s (hi : 4 ≤ i) (N : Names ns) (S : Cells) : tBl (cOp2 dNe (cOp1 gRepr s3a) (cOp1 gRepr s3b)) (caF tab i) (viewF [2, 1] 0 (rE c ns x none none none none none none)) S = .ok false S := by
  have v : viewF [2, 1] 0 (rE c ns x none none none none none none) = rV c ns x none none none none none none := rfl
  rw [v]
  have n := N.toNn
  have h6 := N.h6
  have g1 : Sw 3 300000 (nS ns) := ((ns_pl N).toGd.sw).mono (by decide) (by decide)
  have g2 : Sw 3 300000 (.int (ns.length : Nat)) := (Sw.int (i := ns.length) (by omega)).mono (by decide) (by decide)
  have g3 : Sw 3 300000 (nF (lots ns)) := by
    have g : Gd 64 2 (nF (lots ns)) := gd_tup (by have := lots_len N.toNm; simp; omega) fun d hd => by
      obtain ⟨y, hy, rfl⟩ := List.mem_map.mp hd
      exact (lot_pl N hy).toGd.mono (by decide) (Nat.le_refl _)
    exact g.sw.mono (by decide) (by decide)
  have sw : Sw 4 1000000 (.tup [nS ns, .int (ns.length : Nat), nF (lots ns)]) := (Sw.tup (k := 3) (n := 300000) (ds := [nS ns, .int (ns.length : Nat), nF (lots ns)]) fun d hd => by
    simp only [List.mem_cons, List.not_mem_nil, or_false] at hd
    rcases hd with rfl | rfl | rfl
    · exact g1
    · exact g2
    · exact g3).mono (Nat.le_refl _) (by simp)
  refine dNe_repr sw (by decide) (by decide) S (S1 := S) (o := false) (o' := false) ?_ ?_
  · exact tup3 (a := (nS ns, false)) (b := (.int (ns.length : Nat), false)) (d := (nF (lots ns), false)) (op1_ok (a := (C ns, false)) (S1 := S) rfl (at_names S ns)) (cLen_C (by omega) h6 rfl) (by
      rw [call1_ok (a := (C ns, false)) (S1 := S) rfl]
      exact lots_s (by omega) n S)
  · refine tup3 (a := (nS ns, false)) (b := (.int (ns.length : Nat), false)) (d := (nF (lots ns), false)) rfl (by
      rw [cLen_tup (f := cVar 1) (ds := ns.map D.str) (o := false) rfl, List.length_map]) ?_
    refine opn1_ok (a := (nL (lots ns), true)) (S1 := S) ?_ (bTuple_nL S _)
    rw [call1_ok (a := (nS ns, false)) (S1 := S) rfl]
    exact law_all_lots_s (by omega) n S
/-! circles are equal just if their names are -/
def s4i : SE := cOpn gTupN (aOf [cVar 1, cOp1 dBack (cVar 1), cOp2 dAdd (cSl (cVar 1) (oSome (cCon (.int 1))) oNone) (cSl (cVar 1) oNone (oSome (cCon (.int 1)))), cSl (cVar 1) oNone (oSome (cCon (.int 2)))])
def s4t : ST := tOrT (tBl (cOp2 dNe (cOwn (eqR pg false) (cVar 2) (cMake "Circle" (aOf [cVar 4]))) (cOp2 dEq (cVar 1) (cVar 4)))) (tBl (cOp2 dEq (cOwn (eqR pg true) (cVar 2) (cMake "Circle" (aOf [cVar 4]))) (cOwn (eqR pg false) (cVar 2) (cMake "Circle" (aOf [cVar 4])))))
def fars (ns : List Str) : List (List Str) := [ns, ns.reverse, ns.drop 1 ++ ns.take 1, ns.take 2]
theorem far_names (N : Names ns) {y : List Str} (hy : y ∈ fars ns) : Names y := by
  have h2 := N.h2
  have h6 := N.h6
  simp only [fars, List.mem_cons, List.not_mem_nil, or_false] at hy
  rcases hy with rfl | rfl | rfl | rfl
  · exact N
  · exact { h2 := by rw [List.length_reverse]; exact h2, h6 := by rw [List.length_reverse]; exact h6, nd := (List.reverse_perm ns).nodup_iff.mpr N.nd, pl := fun a ha => N.pl a (List.mem_reverse.mp ha) }
  · have pm : (ns.drop 1 ++ ns.take 1).Perm ns := by
      have := List.perm_append_comm (l₁ := ns.drop 1) (l₂ := ns.take 1)
      rwa [List.take_append_drop] at this
    exact { h2 := by rw [pm.length_eq]; exact h2, h6 := by rw [pm.length_eq]; exact h6, nd := pm.nodup_iff.mpr N.nd, pl := fun a ha => N.pl a (pm.mem_iff.mp ha) }
  · exact { h2 := by rw [List.length_take]; omega, h6 := by rw [List.length_take]; omega, nd := N.nd.sublist (List.take_sublist 2 ns), pl := fun a ha => N.pl a (List.mem_of_mem_take ha) }
theorem s4i_s (N : Names ns) {ca : Ca} {a4 a5 a8 a9 a11 a12 : Option D} (S : Cells) : s4i ca (rV c ns x a4 a5 a8 a9 a11 a12) S = .ok (.tup ((fars ns).map nS), false) S := by
  have h2 := N.h2
  have h6 := N.h6
  have l : (ns.map D.str).length = ns.length := List.length_map _
  have c1 : cutD (ns.map D.str) (some 1) none = (ns.drop 1).map D.str := by
    have := cut_from (ns.map D.str) 1 (by omega)
    rw [List.map_drop]
    exact this
  have c2 : cutD (ns.map D.str) none (some 1) = (ns.take 1).map D.str := by
    have := cut_to (ns.map D.str) 1 (by omega)
    rw [List.map_take]
    exact this
  have c3 : cutD (ns.map D.str) none (some 2) = (ns.take 2).map D.str := by
    have := cut_to (ns.map D.str) 2 (by omega)
    rw [List.map_take]
    exact this
  have hz : ns.length - 1 + min 1 ns.length ≤ 16777216 := by omega
  unfold s4i rV
  simp [runB, runF, initE, sSeq, sIf, exT_eq, sRet_eq, ex1_eq, exI_eq, sSet, sExpr, sFor, cOp1, cOp2, cOpn, cCall, aOf_nil, aOf_cons, aCons, aNil, aStar, seqD, cAnd, cOr, cIf, tNotT, tAndT, tOrT, tBl, tVal, cCon, cVar, lift, R.bind_ok, viewF, viewB, giveF, giveB, ownAt, immB, endF, sPass, tru, EV.iVal, itemsD, EV.iRng1, EV.iRng2, EV.iEnuA, EV.iZip, gNot, bB, bI, cSl, oSome, oNone, dSl, dAdd, dBack, gTupN, c1, c2, c3, hz, fars, nS]
theorem s4t_s (hi : 3 ≤ i) (N : Names ns) {y : List Str} (hy : Names y) {a5 a8 a9 a11 a12 : Option D} {S : Cells} (hS : ∀ o, o ∈ S → isIntC o = true) : s4t (caF tab i) (rV c ns x (some (nS y)) a5 a8 a9 a11 a12) S = .ok false S := by
  have hm : cMake "Circle" (aOf [cVar 4]) (caF tab i) (rV c ns x (some (nS y)) a5 a8 a9 a11 a12) S = .ok (C y, false) S := circle_s (j := i) (by omega) hy hS
  have h2 : cVar 2 (caF tab i) (rV c ns x (some (nS y)) a5 a8 a9 a11 a12) S = .ok (C ns, false) S := rfl
  have e1 := own_eq (i := i) (by omega) (neg := false) h2 hm
  have e2 := own_eq (i := i) (by omega) (neg := true) h2 hm
  unfold s4t
  rw [tor_f (S' := S) (tbl_ok (b := false) (o := false) (op2_ok e1 (op2_ok (a := (nS ns, false)) (b := (nS y, false)) (S1 := S) rfl rfl (fN.dEq (by decide) S ns y)) (by rw [ne_b]; simp)))]
  refine tbl_ok (o := false) (op2_ok e2 e1 ?_)
  rw [eq_b]
  cases decide (ns = y) <;> rfl
theorem r4_s (hi : 3 ≤ i) (N : Names ns) {S : Cells} (hS : ∀ o, o ∈ S → isIntC o = true) : ∃ d, sFor [1] (EV.iVal s4i) (.nm 4) (sIf [2, 4, 1] s4t (sRet [] (cCon (.bl false))) sPass) (caF tab i) (rE c ns x none none none none none none) S = .ok (.nx (rE c ns x (some (d, false)) none none none none none)) S := by
  obtain ⟨ρ', S', q1, q2, q3⟩ := forL_all (p := .nm 4) (body := sIf [2, 4, 1] s4t (sRet [] (cCon (.bl false))) sPass (caF tab i)) nS
    (fun pre ρ S' => S' = S ∧ ((pre = [] ∧ ρ = rE c ns x none none none none none none) ∨ ∃ d, ρ = rE c ns x (some (d, false)) none none none none none)) (fars ns) (ρ := rE c ns x none none none none none none) (S := S) ⟨rfl, .inl ⟨rfl, rfl⟩⟩ (fun pre y post ρ S' ep ⟨e1, e2⟩ => by
      subst e1
      have hy : y ∈ fars ns := by rw [ep]; simp
      refine ⟨rE c ns x (some (nS y, false)) none none none none none, rE c ns x (some (nS y, false)) none none none none none, S', ?_, ?_, rfl, .inr ⟨nS y, rfl⟩⟩
      · rcases e2 with ⟨_, rfl⟩ | ⟨d, rfl⟩ <;> rfl
      · exact sIf_no (s4t_s hi N (far_names N hy) hS))
  subst q2
  rcases q3 with ⟨q, _⟩ | ⟨d, rfl⟩
  · cases q
  · refine ⟨d, ?_⟩
    unfold sFor
    rw [exI_eq]
    unfold EV.iVal
    rw [show viewF [1] 0 (rE c ns x none none none none none none) = rV c ns x none none none none none none from rfl, s4i_s N]
    exact q1
end
end Lk01

namespace Lk01
open PySem PySem.Spec PyProof.Rows L2 EV
/-! ### what may be asked: values that can be shown -/
abbrev Gv (d : D) : Prop := Gd 7 3 d
theorem sz : szT 7 3 ≤ 16000000 := by decide
/-- a text of few plain signs -/
def Wd1 (d : D) : Prop := ∃ a : Str, d = .str a ∧ smp a = true ∧ (ch a).length ≤ 30
theorem wd_gd {d : D} (h : Wd1 d) {w k : Nat} : Gd w k d := by
  obtain ⟨a, rfl, h1, h2⟩ := h
  exact gd_str h1 (by omega)
theorem pool_ok : (pool.all fun a => smp a && decide ((ch a).length ≤ 30)) = true := by decide +kernel
theorem wd_pool {a : Str} (h : a ∈ pool) : Wd1 (.str a) := by
  have := List.all_eq_true.mp pool_ok a h
  simp only [Bool.and_eq_true, decide_eq_true_eq] at this
  exact ⟨a, rfl, this⟩
theorem gv_tup {ds : List D} (hl : ds.length ≤ 7) (h : ∀ d, d ∈ ds → Wd1 d) : Gv (.tup ds) := gd_tup (k := 2) hl fun d hd => wd_gd (h d hd)
theorem gv_lst {ds : List D} (hl : ds.length ≤ 7) (h : ∀ d, d ∈ ds → Wd1 d) : Gv (.lst ds) := gd_lst (k := 2) hl fun d hd => wd_gd (h d hd)
theorem wd_ns {ns : List Str} (N : Names ns) {x : List Str} (hx : ∀ a, a ∈ x → a ∈ ns) : ∀ d, d ∈ x.map D.str → Wd1 d := fun d hd => by
  obtain ⟨a, ha, rfl⟩ := List.mem_map.mp hd
  exact wd_pool (N.pl a (hx a ha))
theorem wd_app {xs ys : List D} (h : ∀ d, d ∈ xs → Wd1 d) (k : ∀ d, d ∈ ys → Wd1 d) : ∀ d, d ∈ xs ++ ys → Wd1 d := fun d hd => by
  rcases List.mem_append.mp hd with hd | hd
  · exact h d hd
  · exact k d hd
theorem wd_cut {xs : List D} (h : ∀ d, d ∈ xs → Wd1 d) (lo hi : Option Int) : ∀ d, d ∈ cutD xs lo hi → Wd1 d := fun d hd => h d (cutD_sub hd)
theorem wd_one {a : Str} (h1 : smp a = true) (h2 : (ch a).length ≤ 30) : ∀ d, d ∈ [D.str a] → Wd1 d := fun d hd => by
  simp only [List.mem_cons, List.not_mem_nil, or_false] at hd
  subst hd
  exact ⟨a, rfl, h1, h2⟩
theorem cut_m1 (xs : List D) (h : 1 ≤ xs.length) : (cutD xs none (some (-1))).length ≤ xs.length - 1 := by
  unfold EV.cutD
  rw [List.length_take]
  have e : HT.sIx xs.length xs.length (some (-1)) = xs.length - 1 := by
    show (if (-1 : Int) < 0 then ((-1 : Int) + (xs.length : Int)).toNat else min (-1 : Int).toNat xs.length) = _
    rw [if_pos (by decide)]
    omega
  rw [e]
  omega
theorem gv_odd {d : D} (h : d ∈ oddL) : Gv d := (odd_ok h (by decide) (by decide)).toGd
theorem gv_non : Gv .non := gd_non
theorem bn_names {ns : List Str} (N : Names ns) {x : List Str} (hx : ∀ a, a ∈ x → a ∈ ns) (hl : x.length ≤ 6) : bnB 6 1 (nS x) = true := by
  simp only [nS, bnB, Bool.and_eq_true, decide_eq_true_eq, List.all_eq_true, List.length_map]
  refine ⟨hl, fun d hd => ?_⟩
  obtain ⟨a, ha, rfl⟩ := List.mem_map.mp hd
  have := List.all_eq_true.mp pool_ok a (N.pl a (hx a ha))
  simpa only [bnB] using this
section
variable {i : Nat} {ns x : List Str} {c : Nat}
def s5 : SE := cOpn gLstN (aOf [cSl (cVar 1) oNone (oSome (cCon (.int 1))), cOp2 dAdd (cVar 1) (cSl (cVar 1) oNone (oSome (cCon (.int 1)))), cOp2 dAdd (cVar 1) (cOpn gTupN (aOf [cCon (.str "q")])), cOpn bList (aOf [cVar 1]), cOp2 dAdd (cSl (cVar 1) oNone (oSome (cOp1 dNeg (cCon (.int 1))))) (cOpn gTupN (aOf [cCon (.str "A")])), cOpn gTupN (aOf [])])
def l5 (ds : List D) : List D := [.tup (cutD ds none (some 1)), .tup (ds ++ cutD ds none (some 1)), .tup (ds ++ [.str "q"]), .lst ds, .tup (cutD ds none (some (-1)) ++ [.str "A"]), .tup []]
theorem s5_s (N : Names ns) {ca : Ca} {a4 a5 a8 a9 a11 a12 : Option D} (S : Cells) : s5 ca (rV c ns x a4 a5 a8 a9 a11 a12) S = .ok (.lst (l5 (ns.map D.str)), true) S := by
  have h6 := N.h6
  have e := cut_len (ns.map D.str) none (some 1)
  have e' := cut_len (ns.map D.str) none (some (-1))
  rw [List.length_map] at e e'
  have z1 : ns.length + (cutD (ns.map D.str) none (some 1)).length ≤ 16777216 := by omega
  have z2 : (cutD (ns.map D.str) none (some (-1))).length + 1 ≤ 16777216 := by omega
  have z3 : ns.length + 1 ≤ 16777216 := by omega
  unfold s5 rV
  simp [runB, runF, initE, sSeq, sIf, exT_eq, sRet_eq, ex1_eq, exI_eq, sSet, sExpr, sFor, cOp1, cOp2, cOpn, cCall, aOf_nil, aOf_cons, aCons, aNil, aStar, seqD, cAnd, cOr, cIf, tNotT, tAndT, tOrT, tBl, tVal, cCon, cVar, lift, R.bind_ok, viewF, viewB, giveF, giveB, ownAt, immB, endF, sPass, tru, EV.iVal, itemsD, EV.iRng1, EV.iRng2, EV.iEnuA, EV.iZip, gNot, bB, bI, cSl, oSome, oNone, dSl, dAdd, dNeg, gTupN, gLstN, bList, z1, z2, z3, l5, nS]
theorem g5 (N : Names ns) {d : D} (h : d ∈ l5 (ns.map D.str)) : Gv d := by
  have h2 := N.h2
  have h6 := N.h6
  have w := wd_ns N (x := ns) fun _ h => h
  have e : (cutD (ns.map D.str) none (some 1)).length ≤ 1 := by
    have := cut_to (ns.map D.str) 1 (by rw [List.length_map]; omega)
    have e2 : cutD (ns.map D.str) none (some 1) = (ns.map D.str).take 1 := this
    rw [e2, List.length_take]
    omega
  have e' := cut_m1 (ns.map D.str) (by rw [List.length_map]; omega)
  rw [List.length_map] at e'
  simp only [l5, List.mem_cons, List.not_mem_nil, or_false] at h
  rcases h with rfl | rfl | rfl | rfl | rfl | rfl
  · exact gv_tup (by omega) (wd_cut w _ _)
  · exact gv_tup (by rw [List.length_append, List.length_map]; omega) (wd_app w (wd_cut w _ _))
  · exact gv_tup (by rw [List.length_append, List.length_map]; simp; omega) (wd_app w (wd_one (by decide +kernel) (by decide +kernel)))
  · exact gv_lst (by rw [List.length_map]; omega) w
  · exact gv_tup (by rw [List.length_append]; simp; omega) (wd_app (wd_cut w _ _) (wd_one (by decide +kernel) (by decide +kernel)))
  · exact gv_tup (by simp) fun d hd => nomatch hd
def words : List Str := ["toolonger", "", "a1", "a b"]
def s6a : SE := cComp (EV.iVal (cOpn gTupN (aOf [cCon (.str "toolonger"), cCon (.str ""), cCon (.str "a1"), cCon (.str "a b")]))) [6] (.nm 6) tYesT (cOp2 dAdd (cSl (cVar 1) oNone (oSome (cOp1 dNeg (cCon (.int 1))))) (cOpn gTupN (aOf [cVar 6])))
def s6 : SE := cOp2 dAdd s6a (cOpn gLstN (aOf [cCall ("_law_odd", none) [] (aOf [cVar 0]), cCon .non]))
def l6 (ds : List D) : List D := words.map fun a => .tup (cutD ds none (some (-1)) ++ [.str a])
theorem s6a_s (N : Names ns) {ca : Ca} {a4 a5 a8 a9 a11 a12 : Option D} (S : Cells) : s6a ca (rV c ns x a4 a5 a8 a9 a11 a12) S = .ok (.lst (l6 (ns.map D.str)), true) S := by
  have h6 := N.h6
  have e' := cut_len (ns.map D.str) none (some (-1))
  rw [List.length_map] at e'
  have z2 : (cutD (ns.map D.str) none (some (-1))).length + 1 ≤ 16777216 := by omega
  refine comp_m D.str words _ rfl fun a ha => ⟨rV c ns x a4 a5 a8 a9 a11 a12 |>.set 6 (some (.str a)), rfl, false, ?_⟩
  unfold rV
  simp [runB, runF, initE, sSeq, sIf, exT_eq, sRet_eq, ex1_eq, exI_eq, sSet, sExpr, sFor, cOp1, cOp2, cOpn, cCall, aOf_nil, aOf_cons, aCons, aNil, aStar, seqD, cAnd, cOr, cIf, tNotT, tAndT, tOrT, tBl, tVal, cCon, cVar, lift, R.bind_ok, viewF, viewB, giveF, giveB, ownAt, immB, endF, sPass, tru, EV.iVal, itemsD, EV.iRng1, EV.iRng2, EV.iEnuA, EV.iZip, gNot, bB, bI, cSl, oSome, oNone, dSl, dAdd, dNeg, gTupN, z2, nS]
theorem words_ok : (words.all fun a => smp a && decide ((ch a).length ≤ 30)) = true := by decide +kernel
theorem g6 (N : Names ns) {d : D} (h : d ∈ l6 (ns.map D.str)) : Gv d := by
  have h2 := N.h2
  have h6 := N.h6
  have w := wd_ns N (x := ns) fun _ h => h
  have e' := cut_m1 (ns.map D.str) (by rw [List.length_map]; omega)
  rw [List.length_map] at e'
  obtain ⟨a, ha, rfl⟩ := List.mem_map.mp h
  have := List.all_eq_true.mp words_ok a ha
  simp only [Bool.and_eq_true, decide_eq_true_eq] at this
  exact gv_tup (by rw [List.length_append]; simp; omega) (wd_app (wd_cut w _ _) (wd_one this.1 this.2))
def s7 : SE := cComp (EV.iRng1 (cCon (.int 3))) [7] (.nm 7) tYesT (cCall ("_law_bent", none) [] (aOf [cVar 0, cVar 1]))
theorem s7_s (hi : 5 ≤ i) (N : Names ns) {L : Shp} {M : Int} {S : Cells} (p : Ps c L M S) (hM : M < 2 ^ 35) (k : Nat) (y : List Str) (hk : k = 1 ∧ y = ns ∨ k = 3 ∧ y = x) (hy : bnB 6 1 (nS y) = true) {a4 a5 a8 a9 a11 a12 : Option D} :
    ∃ ds S', cComp (EV.iRng1 (cCon (.int 3))) [7] (.nm 7) tYesT (cCall ("_law_bent", none) [] (aOf [cVar 0, cVar k])) (caF tab i) (rV c ns x a4 a5 a8 a9 a11 a12) S = .ok (.lst ds, true) S' ∧ (∀ d, d ∈ ds → Gv d) ∧ ds.length = 3 ∧ Ps c L (M + 12) S' := by
  obtain ⟨ds, S4, c1, c2, c3, c4⟩ := comp_any (it := EV.iRng1 (cCon (.int 3))) (vs := [7]) (pt := .nm 7) (e := cCall ("_law_bent", none) [] (aOf [cVar 0, cVar k])) (ca := caF tab i) (ρ := rV c ns x a4 a5 a8 a9 a11 a12) (S0 := S) (fun i : Nat => D.int (i : Nat)) (List.range 3) Gv (fun k S => Ps c L (M + 4 * k) S) (iRng1_n (n := 3) rfl (by decide)) (by simpa using p) (fun n z S hn hz hP => by
    simp at hn
    obtain ⟨e, S', b1, b2, b3⟩ := bent_s dr t_odd' t_bent' (w := 6) (by decide) (by decide) 1 (j := i) hi (nS y) hy _ S hP (by omega)
    refine ⟨rV c ns x a4 a5 a8 a9 a11 a12 |>.set 7 (some (.int (z : Nat))), e, false, S', rfl, ?_, b2.toGd, ?_⟩
    · have hv : cVar k (caF tab i) (rV c ns x a4 a5 a8 a9 a11 a12 |>.set 7 (some (.int (z : Nat)))) S = .ok (nS y, false) S := by
        rcases hk with ⟨rfl, rfl⟩ | ⟨rfl, rfl⟩ <;> rfl
      rw [call2_ok (a := (.cel c, false)) (b := (nS y, false)) (S1 := S) (S2 := S) rfl hv]
      exact b1
    · have : M + 4 * ((n + 1 : Nat) : Int) = M + 4 * (n : Int) + (2 * ((1 : Nat) : Int) + 2) := by omega
      rw [this]
      exact b3)
  exact ⟨ds, S4, c1, c2, by simpa using c3, c4⟩
end
end Lk01

namespace Lk01
open PySem PySem.Spec PyProof.Rows L2 EV
theorem iff_no {ms : List Nat} {t : ST} {a b : SS} {ca : Ca} {ρ : SEn} {S S' : Cells} (h : t ca (viewF ms 0 ρ) S = .ok false S') : sSeq (sIf ms t a sPass) b ca ρ S = b ca ρ S' := by
  rw [sSeq_nx (sIf_no h)]
theorem lst2 {f g : SE} {ca : Ca} {ρ : En} {S S' S2 : Cells} {a b : B} (hf : f ca ρ S = .ok a S') (hg : g ca ρ S' = .ok b S2) : cOpn gLstN (aOf [f, g]) ca ρ S = .ok (.lst [a.1, b.1], true) S2 := by
  simp [cOpn, aOf_cons, aOf_nil, aCons, aNil, hf, hg, R.bind_ok, lift, gLstN]
theorem lst3 {f g h : SE} {ca : Ca} {ρ : En} {S : Cells} {a b d : B} (hf : f ca ρ S = .ok a S) (hg : g ca ρ S = .ok b S) (hh : h ca ρ S = .ok d S) : cOpn gLstN (aOf [f, g, h]) ca ρ S = .ok (.lst [a.1, b.1, d.1], true) S := by
  simp [cOpn, aOf_cons, aOf_nil, aCons, aNil, hf, hg, hh, R.bind_ok, lift, gLstN]
theorem tup5 {f g h k m : SE} {ca : Ca} {ρ : En} {S S' : Cells} {a b d e u : B} (hf : f ca ρ S = .ok a S) (hg : g ca ρ S = .ok b S) (hh : h ca ρ S = .ok d S) (hk : k ca ρ S = .ok e S) (hm : m ca ρ S = .ok u S') : cOpn gTupN (aOf [f, g, h, k, m]) ca ρ S = .ok (.tup [a.1, b.1, d.1, e.1, u.1], false) S' := by
  simp [cOpn, aOf_cons, aOf_nil, aCons, aNil, hf, hg, hh, hk, hm, R.bind_ok, lift, gTupN]
/-- all of a list of values are right -/
theorem all_right {f it : SE} {i k : Nat} {ρ : En} {S : Cells} {ds : List D} {o : Bool} (hit : it (caF tab i) ρ S = .ok (.lst ds, o) S) (h : ∀ d, d ∈ ds → ∃ ρ', bindP (.nm k) d (wipeE ρ [k]) = some ρ' ∧ f (caF tab i) ρ' S = .ok (.bl true, false) S) :
    tNotT (tVal (cOpn bAll (aOf [cComp (EV.iVal it) [k] (.nm k) tYesT f]))) (caF tab i) ρ S = .ok false S := by
  have hc : cComp (EV.iVal it) [k] (.nm k) tYesT f (caF tab i) ρ S = .ok (.lst (ds.map fun _ => D.bl true), true) S :=
    comp_m (fun d => d) ds (fun _ => D.bl true) (by unfold EV.iVal; rw [hit]; simp [R.bind_ok, itemsD]) fun d hd => by
      obtain ⟨ρ', h1, h2⟩ := h d hd
      exact ⟨ρ', h1, false, h2⟩
  refine tnot_ok (b := true) (tval_ok (o := false) (opn1_ok hc ?_))
  rw [bAll_map S (fun _ : D => true) ds]
  simp
section
variable {i : Nat} {ns x : List Str} {c : Nat}
/-! near values are names of a circle, or refused -/
theorem near_s (hi : 5 ≤ i) (N : Names ns) {L : Shp} {M : Int} {S : Cells} (p : Ps c L M S) (hM : M < 2 ^ 35 - 10) (d4 : D) :
    ∃ l S', sSeq (sSet 5 [1] s5) (sSeq (sExt 5 [1, 6, 0] s6) (sExt 5 [0, 1] s7)) (caF tab i) (rE c ns x (some (d4, false)) none none none none none) S = .ok (.nx (rE c ns x (some (d4, false)) (some (.lst l, true)) none none none none)) S' ∧ (∀ d, d ∈ l → Gv d) ∧ l.length ≤ 20 ∧ Ps c L (M + 13) S' := by
  obtain ⟨od, S1, o1, o2, o3⟩ := odd_s dr t_odd' (j := i) (by omega) p (by omega)
  obtain ⟨bs, S2, b1, b2, b3, b4⟩ := s7_s (x := x) (i := i) hi N o3 (by omega) 1 ns (.inl ⟨rfl, rfl⟩) (bn_names N (fun _ h => h) N.h6) (a4 := some d4) (a5 := none) (a8 := none) (a9 := none) (a11 := none) (a12 := none)
  refine ⟨l5 (ns.map D.str) ++ (l6 (ns.map D.str) ++ [od, .non]) ++ bs, S2, ?_, fun d hd => ?_, by simp [l5, l6, words, b3], b4.mono (by omega)⟩
  · have e5 : sSet 5 [1] s5 (caF tab i) (rE c ns x (some (d4, false)) none none none none none) S = .ok (.nx (rE c ns x (some (d4, false)) (some (.lst (l5 (ns.map D.str)), true)) none none none none)) S := by
      unfold sSet
      rw [ex1_eq, show viewF [1] 0 (rE c ns x (some (d4, false)) none none none none none) = rV c ns x (some d4) none none none none none from rfl, s5_s N]
      rfl
    have e6 : s6 (caF tab i) (rV c ns x (some d4) none none none none none) S = .ok (.lst (l6 (ns.map D.str) ++ [od, .non]), true) S1 := by
      refine op2_ok (s6a_s N S) (lst2 (a := (od, false)) (b := (.non, false)) (S' := S1) ?_ rfl) (add_lst S1 (by simp [l6, words]))
      rw [call1_ok (a := (.cel c, false)) (S1 := S) rfl]
      exact o1
    rw [sSeq_nx e5, sSeq_nx (sExt_own (as := l5 (ns.map D.str)) (es := l6 (ns.map D.str) ++ [od, .non]) (o := true) (S' := S1) rfl (by exact e6) rfl (by simp [l5, l6, words]))]
    rw [sExt_own (as := l5 (ns.map D.str) ++ (l6 (ns.map D.str) ++ [od, .non])) (es := bs) (o := true) (S' := S2) rfl (by exact b1) rfl (by simp [l5, l6, words, b3])]
    rfl
  · rcases List.mem_append.mp hd with hd | hd
    · rcases List.mem_append.mp hd with hd | hd
      · exact g5 N hd
      · rcases List.mem_append.mp hd with hd | hd
        · exact g6 N hd
        · simp only [List.mem_cons, List.not_mem_nil, or_false] at hd
          rcases hd with rfl | rfl
          · exact gv_odd o2
          · exact gv_non
    · exact b2 d hd
def s8i : SE := cOp2 dAdd (cVar 5) (cOpn gLstN (aOf [cVar 1, cSl (cVar 1) oNone (oSome (cCon (.int 2)))]))
def s8 : ST := tNotT (tVal (cOpn bAll (aOf [cComp (EV.iVal s8i) [8] (.nm 8) tYesT (cCall ("_law_is_circle_right", none) [] (aOf [cVar 8]))])))
theorem r8_s (hi : 4 ≤ i) (N : Names ns) {S : Cells} (hS : ∀ o, o ∈ S → isIntC o = true) (ht : S.any (isTb "_law_is_circle_right") = true) {l : List D} (hl : ∀ d, d ∈ l → Gv d) (hz : l.length ≤ 20) (d4 : D) :
    s8 (caF tab i) (viewF [8, 5, 1] 0 (rE c ns x (some (d4, false)) (some (.lst l, true)) none none none none)) S = .ok false S := by
  have h2 := N.h2
  have h6 := N.h6
  have v : viewF [8, 5, 1] 0 (rE c ns x (some (d4, false)) (some (.lst l, true)) none none none none) = rV c ns x (some d4) (some (.lst l)) none none none none := rfl
  have w := wd_ns N (x := ns) fun _ h => h
  have e2 : s8i (caF tab i) (rV c ns x (some d4) (some (.lst l)) none none none none) S = .ok (.lst (l ++ [nS ns, .tup (cutD (ns.map D.str) none (some 2))]), true) S :=
    op2_ok (a := (.lst l, false)) (S1 := S) rfl (lst2 (a := (nS ns, false)) (b := (.tup (cutD (ns.map D.str) none (some 2)), false)) (S' := S) rfl rfl) (add_lst S (by simp; omega))
  rw [v]
  refine all_right e2 fun d hd => ⟨rV c ns x (some d4) (some (.lst l)) (some d) none none none, rfl, ?_⟩
  rw [call1_ok (a := (d, false)) (S1 := S) rfl]
  refine circle_right_any (w := 7) (k := 3) (by omega) ?_ (by decide) sz hS ht
  rcases List.mem_append.mp hd with hd | hd
  · exact hl d hd
  · simp only [List.mem_cons, List.not_mem_nil, or_false] at hd
    rcases hd with rfl | rfl
    · exact gv_tup (by rw [List.length_map]; omega) w
    · exact gv_tup (by have := cut_len (ns.map D.str) none (some 2); rw [List.length_map] at this; omega) (wd_cut w _ _)
/-! what the circle equals, what it has -/
def s9 : SE := cOpn gTupN (aOf [cVar 1, cCon .non, cCon (.int 0), cVar 3, cCall ("_law_odd", none) [] (aOf [cVar 0])])
def s10 : ST := tOrT (tVal (cOpn bAny (aOf [cComp (EV.iVal (cVar 9)) [8] (.nm 8) tYesT (cOwn (eqR pg false) (cVar 2) (cVar 8))]))) (tOrT (tNotT (tVal (cOpn bAll (aOf [cComp (EV.iVal (cVar 1)) [10] (.nm 10) tYesT (cOwn (EV.inR pg false) (cVar 10) (cVar 2))])))) (tBl (cOwn (EV.inR pg false) (cCon (.str "nobody")) (cVar 2))))
theorem r9_s (hi : 3 ≤ i) {L : Shp} {M : Int} {S : Cells} (p : Ps c L M S) (hM : M < 2 ^ 36) (d4 : D) (l : List D) : ∃ od S', sSet 9 [1, 3, 0] s9 (caF tab i) (rE c ns x (some (d4, false)) (some (.lst l, true)) none none none none) S = .ok (.nx (rE c ns x (some (d4, false)) (some (.lst l, true)) none (some (.tup [nS ns, .non, .int 0, nS x, od], false)) none none)) S' ∧ od ∈ oddL ∧ Ps c L (M + 1) S' := by
  obtain ⟨od, S1, o1, o2, o3⟩ := odd_s dr t_odd' (j := i) hi p (by omega)
  refine ⟨od, S1, ?_, o2, o3⟩
  have v : viewF [1, 3, 0] 0 (rE c ns x (some (d4, false)) (some (.lst l, true)) none none none none) = rV c ns x (some d4) none none none none none := rfl
  have e : s9 (caF tab i) (rV c ns x (some d4) none none none none none) S = .ok (.tup [nS ns, .non, .int 0, nS x, od], false) S1 := by
    have ho : cCall ("_law_odd", none) [] (aOf [cVar 0]) (caF tab i) (rV c ns x (some d4) none none none none none) S = .ok (od, false) S1 := by
      rw [call1_ok (a := (.cel c, false)) (S1 := S) rfl]
      exact o1
    exact tup5 (a := (nS ns, false)) (b := (.non, false)) (d := (.int 0, false)) (e := (nS x, false)) (u := (od, false)) rfl rfl rfl rfl ho
  unfold sSet
  rw [ex1_eq, v, e]
  rfl
theorem nobody : ("nobody" : Str) ∉ pool := by decide +kernel
theorem r10_s (hi : 3 ≤ i) (N : Names ns) (hx : x ∈ lots ns) {S : Cells} (d4 : D) (l : List D) {od : D} (ho : od ∈ oddL) :
    s10 (caF tab i) (viewF [2, 8, 9, 10, 1] 0 (rE c ns x (some (d4, false)) (some (.lst l, true)) none (some (.tup [nS ns, .non, .int 0, nS x, od], false)) none none)) S = .ok false S := by
  have v : viewF [2, 8, 9, 10, 1] 0 (rE c ns x (some (d4, false)) (some (.lst l, true)) none (some (.tup [nS ns, .non, .int 0, nS x, od], false)) none none) = rV c ns x (some d4) none none (some (.tup [nS ns, .non, .int 0, nS x, od])) none none := rfl
  rw [v]
  have c1 : cComp (EV.iVal (cVar 9)) [8] (.nm 8) tYesT (cOwn (eqR pg false) (cVar 2) (cVar 8)) (caF tab i) (rV c ns x (some d4) none none (some (.tup [nS ns, .non, .int 0, nS x, od])) none none) S = .ok (.lst ([nS ns, .non, .int 0, nS x, od].map fun _ => D.bl false), true) S :=
    comp_m (fun d => d) [nS ns, .non, .int 0, nS x, od] (fun _ => D.bl false) rfl fun d hd => ⟨rV c ns x (some d4) none (some d) (some (.tup [nS ns, .non, .int 0, nS x, od])) none none, rfl, false, by
      refine own_no (i := i) (by omega) ?_ (o := false) (o' := false) rfl rfl
      simp only [List.mem_cons, List.not_mem_nil, or_false] at hd
      rcases hd with rfl | rfl | rfl | rfl | rfl
      · exact (ns_pl N).ni
      · rfl
      · rfl
      · exact (lot_pl N hx).ni
      · exact (gv_odd ho).ni⟩
  have c2 : cComp (EV.iVal (cVar 1)) [10] (.nm 10) tYesT (cOwn (EV.inR pg false) (cVar 10) (cVar 2)) (caF tab i) (rV c ns x (some d4) none none (some (.tup [nS ns, .non, .int 0, nS x, od])) none none) S = .ok (.lst (ns.map fun a => D.bl (decide (a ∈ ns))), true) S :=
    comp_m D.str ns _ rfl fun a ha => ⟨rV c ns x (some d4) none none (some (.tup [nS ns, .non, .int 0, nS x, od])) none none |>.set 10 (some (.str a)), rfl, false, own_in (i := i) (by omega) (o := false) (o' := false) rfl rfl⟩
  unfold s10
  rw [tor_f (S' := S) (tval_ok (b := false) (o := false) (opn1_ok c1 (by rw [bAny_map S (fun _ : D => false)]; simp)))]
  rw [tor_f (S' := S) (tnot_ok (b := true) (tval_ok (o := false) (opn1_ok c2 (by rw [bAll_map S (fun a => decide (a ∈ ns)) ns]; simp))))]
  refine tbl_ok (o := false) ?_
  rw [own_in (i := i) (ns := ns) (a := "nobody") (by omega) (o := false) (o' := false) rfl rfl]
  rw [decide_eq_false fun h => nobody (N.pl _ h)]
end
end Lk01

namespace Lk01
open PySem PySem.Spec PyProof.Rows L2 EV
section
variable {i : Nat} {ns x : List Str} {c : Nat}
/-- the values so far, then those of this part -/
def zE (c : Nat) (ns x : List Str) (d4 : D) (l : List D) (st : D) (a8 a11 a12 : Option B) : SEn := rE c ns x (some (d4, false)) (some (.lst l, true)) a8 (some (st, false)) a11 a12
def s11 : SE := cOpn gLstN (aOf [cOp1 dBack (cVar 3), cOpn bList (aOf [cVar 3]), cOp2 dAdd (cVar 3) (cSl (cVar 3) (oSome (cOp1 dNeg (cCon (.int 1)))) oNone), cOp2 dAdd (cVar 3) (cOpn gTupN (aOf [cCon (.str "nobody")])), cOp2 dIx (cVar 3) (cCon (.int 0)), cCon .non, cOpn gTupN (aOf [cCon .non]), cCall ("_law_odd", none) [] (aOf [cVar 0])])
def l11 (ds : List D) (a od : D) : List D := [.tup ds.reverse, .lst ds, .tup (ds ++ cutD ds (some (-1)) none), .tup (ds ++ [.str "nobody"]), a, .non, .tup [.non], od]
theorem ixs (S : Cells) (a : Str) (r : List Str) : dIx S (nS (a :: r)) (.int 0) = some (.str a, false) := ix0 S _ _
theorem lst8 {f1 f2 f3 f4 f5 f6 f7 f8 : SE} {ca : Ca} {ρ : En} {S S' : Cells} {b1 b2 b3 b4 b5 b6 b7 b8 : B} (h1 : f1 ca ρ S = .ok b1 S) (h2 : f2 ca ρ S = .ok b2 S) (h3 : f3 ca ρ S = .ok b3 S) (h4 : f4 ca ρ S = .ok b4 S) (h5 : f5 ca ρ S = .ok b5 S) (h6 : f6 ca ρ S = .ok b6 S) (h7 : f7 ca ρ S = .ok b7 S) (h8 : f8 ca ρ S = .ok b8 S') :
    cOpn gLstN (aOf [f1, f2, f3, f4, f5, f6, f7, f8]) ca ρ S = .ok (.lst [b1.1, b2.1, b3.1, b4.1, b5.1, b6.1, b7.1, b8.1], true) S' := by
  simp [cOpn, aOf_cons, aOf_nil, aCons, aNil, h1, h2, h3, h4, h5, h6, h7, h8, R.bind_ok, lift, gLstN]
theorem add_t (S : Cells) {xs ys : List D} (h : xs.length + ys.length ≤ 100000) : dAdd S (.tup xs) (.tup ys) = some (.tup (xs ++ ys), false) := by
  have : xs.length + ys.length ≤ 16777216 := by omega
  simp [dAdd, this]
theorem s11_s (hl : (x.map D.str).length ≤ 7) {a : Str} {r : List Str} (hx : x = a :: r) {od : D} {S S' : Cells} {a4 a5 a8 a9 a11 a12 : Option D} (ho : caF tab i ("_law_odd", none) [.cel c] S = .ok (od, false) S') : s11 (caF tab i) (rV c ns x a4 a5 a8 a9 a11 a12) S = .ok (.lst (l11 (x.map D.str) (.str a) od), true) S' := by
  have e := cut_last (x.map D.str)
  unfold s11
  refine lst8 (b1 := (.tup (x.map D.str).reverse, false)) (b2 := (.lst (x.map D.str), true)) (b3 := (.tup (x.map D.str ++ cutD (x.map D.str) (some (-1)) none), false)) (b4 := (.tup (x.map D.str ++ [.str "nobody"]), false)) (b5 := (.str a, false)) (b6 := (.non, false)) (b7 := (.tup [.non], false)) (b8 := (od, false)) ?_ ?_ ?_ ?_ ?_ ?_ ?_ ?_
  · rfl
  · rfl
  · exact op2_ok (a := (nS x, false)) (b := (.tup (cutD (x.map D.str) (some (-1)) none), false)) (S1 := S) rfl rfl (add_t S (by omega))
  · exact op2_ok (a := (nS x, false)) (b := (.tup [.str "nobody"], false)) (S1 := S) rfl rfl (add_t S (by simp only [List.length_cons, List.length_nil]; omega))
  · exact op2_ok (a := (nS x, false)) (b := (.int 0, false)) (S1 := S) rfl rfl (by rw [hx]; exact ixs S a r)
  · rfl
  · rfl
  · rw [call1_ok (a := (.cel c, false)) (S1 := S) rfl]
    exact ho
theorem g11 (N : Names ns) (hs : ∀ b, b ∈ x → b ∈ ns) (hl : x.length ≤ 6) {a : Str} (ha : a ∈ x) {od : D} (ho : od ∈ oddL) {d : D} (h : d ∈ l11 (x.map D.str) (.str a) od) : Gv d := by
  have w := wd_ns N hs
  have e := cut_last (x.map D.str)
  have l : (x.map D.str).length = x.length := List.length_map _
  simp only [l11, List.mem_cons, List.not_mem_nil, or_false] at h
  rcases h with rfl | rfl | rfl | rfl | rfl | rfl | rfl | rfl
  · exact gv_tup (by rw [List.length_reverse]; omega) fun d hd => w d (List.mem_reverse.mp hd)
  · exact gv_lst (by omega) w
  · exact gv_tup (by rw [List.length_append]; omega) (wd_app w (wd_cut w _ _))
  · exact gv_tup (by rw [List.length_append]; simp only [List.length_cons, List.length_nil]; omega) (wd_app w (wd_one (by decide +kernel) (by decide +kernel)))
  · exact wd_gd (wd_pool (N.pl a (hs a ha)))
  · exact gv_non
  · exact (anyB_ok (w := 7) (k := 3) (by decide +kernel)).toGd
  · exact gv_odd ho
def s12 : SE := cComp (EV.iRng1 (cCon (.int 3))) [7] (.nm 7) tYesT (cCall ("_law_bent", none) [] (aOf [cVar 0, cVar 3]))
theorem bad_s (hi : 5 ≤ i) (N : Names ns) (hx : x ∈ lots ns) (hn : x ≠ []) {L : Shp} {M : Int} {S : Cells} (p : Ps c L M S) (hM : M < 2 ^ 35 - 10) (d4 st : D) (l : List D) :
    ∃ b S', sSeq (sSet 11 [3, 0] s11) (sExt 11 [0, 3] s12) (caF tab i) (zE c ns x d4 l st none none none) S = .ok (.nx (zE c ns x d4 l st none (some (.lst b, true)) none)) S' ∧ (∀ d, d ∈ b → Gv d) ∧ b.length ≤ 20 ∧ Ps c L (M + 13) S' := by
  have h6 := N.h6
  have hlot := (mem_lots N.toNm).mp hx
  have hs := lot_sub hlot
  have hlen := lot_len hlot
  obtain ⟨a, r, e⟩ := List.exists_cons_of_ne_nil hn
  obtain ⟨od, S1, o1, o2, o3⟩ := odd_s dr t_odd' (j := i) (by omega) p (by omega)
  obtain ⟨bs, S2, b1, b2, b3, b4⟩ := s7_s (x := x) (i := i) hi N o3 (by omega) 3 x (.inr ⟨rfl, rfl⟩) (bn_names N hs (by omega)) (a4 := some d4) (a5 := none) (a8 := none) (a9 := some st) (a11 := none) (a12 := none)
  refine ⟨l11 (x.map D.str) (.str a) od ++ bs, S2, ?_, fun d hd => ?_, by simp [l11, b3], b4.mono (by omega)⟩
  · have e11 : sSet 11 [3, 0] s11 (caF tab i) (zE c ns x d4 l st none none none) S = .ok (.nx (zE c ns x d4 l st none (some (.lst (l11 (x.map D.str) (.str a) od), true)) none)) S1 := by
      unfold sSet
      rw [ex1_eq, show viewF [3, 0] 0 (zE c ns x d4 l st none none none) = rV c ns x (some d4) none none (some st) none none from rfl, s11_s (by rw [List.length_map]; omega) e o1]
      rfl
    rw [sSeq_nx e11, sExt_own (as := l11 (x.map D.str) (.str a) od) (es := bs) (o := true) (S' := S2) rfl (by exact b1) rfl (by simp [l11, b3])]
    rfl
  · rcases List.mem_append.mp hd with hd | hd
    · exact g11 N hs (by omega) (by rw [e]; exact List.mem_cons_self ..) o2 hd
    · exact b2 d hd
def s13i : SE := cOp2 dAdd (cVar 11) (cOpn gLstN (aOf [cVar 3, cOpn gTupN (aOf []), cVar 1]))
def s13 : ST := tNotT (tVal (cOpn bAll (aOf [cComp (EV.iVal s13i) [8] (.nm 8) tYesT (cCall ("_law_is_lot_due", none) [] (aOf [cVar 1, cVar 2, cVar 8]))])))
theorem r13_s (hi : 5 ≤ i) (N : Names ns) (hx : x ∈ lots ns) {S : Cells} (ht : S.any (isTb "_law_is_lot_due") = true) {b : List D} (hb : ∀ d, d ∈ b → Gv d) (hz : b.length ≤ 20) (d4 st : D) (l : List D) :
    s13 (caF tab i) (viewF [1, 2, 8, 11, 3] 0 (zE c ns x d4 l st none (some (.lst b, true)) none)) S = .ok false S := by
  have h6 := N.h6
  have hlot := (mem_lots N.toNm).mp hx
  have hlen := lot_len hlot
  have v : viewF [1, 2, 8, 11, 3] 0 (zE c ns x d4 l st none (some (.lst b, true)) none) = rV c ns x (some d4) none none (some st) (some (.lst b)) none := rfl
  have e2 : s13i (caF tab i) (rV c ns x (some d4) none none (some st) (some (.lst b)) none) S = .ok (.lst (b ++ [nS x, .tup [], nS ns]), true) S :=
    op2_ok (a := (.lst b, false)) (S1 := S) rfl (lst3 (a := (nS x, false)) (b := (.tup [], false)) (d := (nS ns, false)) rfl rfl rfl) (add_lst S (by simp; omega))
  rw [v]
  refine all_right e2 fun d hd => ⟨rV c ns x (some d4) none (some d) (some st) (some (.lst b)) none, rfl, ?_⟩
  rw [call3_ok (a := (nS ns, false)) (b := (C ns, false)) (d := (d, false)) (S1 := S) (S2 := S) (S3 := S) rfl rfl rfl]
  refine lot_due_any (w := 7) (k := 3) hi h6 ?_ (by decide) sz ht
  rcases List.mem_append.mp hd with hd | hd
  · exact hb d hd
  · simp only [List.mem_cons, List.not_mem_nil, or_false] at hd
    rcases hd with rfl | rfl | rfl
    · exact gv_tup (by rw [List.length_map]; omega) (wd_ns N (lot_sub hlot))
    · exact gv_tup (by simp) fun d hd => nomatch hd
    · exact gv_tup (by rw [List.length_map]; omega) (wd_ns N fun _ h => h)
/-! what is no keepers is refused -/
def s14i : SE := cOpn gTupN (aOf [cOpn bList (aOf [cVar 3]), cOp2 dAdd (cVar 3) (cOpn gTupN (aOf [cCon (.str "nobody")])), cOp2 dAdd (cVar 3) (cOpn gTupN (aOf [cCon (.int 0)])), cCon .non, cOp2 dIx (cVar 3) (cCon (.int 0))])
def l14 (ds : List D) (a : D) : List D := [.lst ds, .tup (ds ++ [.str "nobody"]), .tup (ds ++ [.int 0]), .non, a]
def s14a : SE := cOp2 dIx (cHeard pg.excs "_law_right" (cMeth pg "lot" 1 (cVar 2) (aOf [cVar 8]))) (cCon (.int 0))
def s14t : ST := tOrT (tNotT (tVal (cOp1 (gIsE pg.excs "BadNames") (cVar 12)))) (tBl (cOp2 dNe (cOp1 gRepr (cOp1 (gAttr pg "value") (cVar 12))) (cOp1 gRepr (cVar 8))))
theorem wd_no {ds : List D} {d : D} (h : wordIn d ns = false) : wdB ns (.tup (ds ++ [d])) = false := by
  show (ds ++ [d]).all (fun y => wordIn y ns) = false
  rw [List.all_append]
  simp [h]
theorem in14 (N : Names ns) (hs : ∀ b, b ∈ x → b ∈ ns) (hl : x.length ≤ 6) {a : Str} (ha : a ∈ x) {d : D} (h : d ∈ l14 (x.map D.str) (.str a)) : Gv d ∧ wdB ns d = false := by
  have w := wd_ns N hs
  have l : (x.map D.str).length = x.length := List.length_map _
  simp only [l14, List.mem_cons, List.not_mem_nil, or_false] at h
  rcases h with rfl | rfl | rfl | rfl | rfl
  · exact ⟨gv_lst (by omega) w, rfl⟩
  · refine ⟨gv_tup (by rw [List.length_append]; simp only [List.length_cons, List.length_nil]; omega) (wd_app w (wd_one (by decide +kernel) (by decide +kernel))), wd_no ?_⟩
    exact decide_eq_false fun h => nobody (N.pl _ h)
  · refine ⟨gd_tup (k := 2) (by rw [List.length_append]; simp only [List.length_cons, List.length_nil]; omega) fun d hd => ?_, wd_no rfl⟩
    rcases List.mem_append.mp hd with hd | hd
    · exact wd_gd (w d hd)
    · simp only [List.mem_cons, List.not_mem_nil, or_false] at hd
      subst hd
      exact gd_int (by decide)
  · exact ⟨gv_non, rfl⟩
  · exact ⟨wd_gd (wd_pool (N.pl a (hs a ha))), rfl⟩
theorem r14_turn (hi : 3 ≤ i) {d : D} (hg : Gv d) (hw : wdB ns d = false) {S : Cells} (ht : S.any (isTb "_law_right") = true) (d4 st : D) (l b : List D) (a12 : Option B) (h12 : a12 = none ∨ ∃ u, a12 = some (u, false)) :
    sSeq (sSet 12 [2, 8] s14a) (sIf [12, 8] s14t (sRet [] (cCon (.bl false))) sPass) (caF tab i) (zE c ns x d4 l st (some (d, false)) (some (.lst b, true)) a12) S = .ok (.nx (zE c ns x d4 l st (some (d, false)) (some (.lst b, true)) (some (.exc "BadNames" d, false)))) S := by
  have e1 : ∀ u, s14a (caF tab i) (rV c ns x (some d4) none (some d) (some st) none u) S = .ok (.exc "BadNames" d, false) S := fun u => by
    have m := meth1 (i := i) (f := cVar 2) (g := cVar 8) (ρ := rV c ns x (some d4) none (some d) (some st) none u) (S := S) (d := d) (mt_of ns).2.1 (o := false) (o' := false) rfl rfl
    exact op2_ok (heard_x ht (m.trans ((lot_any (by omega) hg.ni S).1 hw)) ex_names) rfl (ix0 S _ _)
  have e2 : sSet 12 [2, 8] s14a (caF tab i) (zE c ns x d4 l st (some (d, false)) (some (.lst b, true)) a12) S = .ok (.nx (zE c ns x d4 l st (some (d, false)) (some (.lst b, true)) (some (.exc "BadNames" d, false)))) S := by
    unfold sSet
    rw [ex1_eq]
    rcases h12 with rfl | ⟨u, rfl⟩
    · rw [show viewF [2, 8] 0 (zE c ns x d4 l st (some (d, false)) (some (.lst b, true)) none) = rV c ns x (some d4) none (some d) (some st) none none from rfl, e1]
      rfl
    · rw [show viewF [2, 8] 0 (zE c ns x d4 l st (some (d, false)) (some (.lst b, true)) (some (u, false))) = rV c ns x (some d4) none (some d) (some st) none (some u) from rfl, e1]
      rfl
  rw [sSeq_nx e2]
  refine sIf_no ?_
  rw [show viewF [12, 8] 0 (zE c ns x d4 l st (some (d, false)) (some (.lst b, true)) (some (.exc "BadNames" d, false))) = rV c ns x (some d4) none (some d) (some st) none (some (.exc "BadNames" d)) from rfl]
  unfold s14t
  rw [tor_f (S' := S) (tnot_ok (b := true) (tval_ok (o := false) (op1_ok (a := (.exc "BadNames" d, false)) (S1 := S) rfl (is_x S ex_names))))]
  exact tbl_ok (val_repr hg (by decide) sz (o := false) (o' := false) ex_names rfl rfl).2
theorem r14_s (hi : 3 ≤ i) (N : Names ns) (hx : x ∈ lots ns) (hn : x ≠ []) {S : Cells} (ht : S.any (isTb "_law_right") = true) (d4 st : D) (l b : List D) :
    ∃ a8 a12, sFor [3] (EV.iVal s14i) (.nm 8) (sSeq (sSet 12 [2, 8] s14a) (sIf [12, 8] s14t (sRet [] (cCon (.bl false))) sPass)) (caF tab i) (zE c ns x d4 l st none (some (.lst b, true)) none) S = .ok (.nx (zE c ns x d4 l st (some (a8, false)) (some (.lst b, true)) (some (a12, false)))) S := by
  have h6 := N.h6
  have hlot := (mem_lots N.toNm).mp hx
  have hs := lot_sub hlot
  have hlen := lot_len hlot
  obtain ⟨a, r, e⟩ := List.exists_cons_of_ne_nil hn
  have ha : a ∈ x := by rw [e]; exact List.mem_cons_self ..
  have lm : (x.map D.str).length = x.length := List.length_map _
  have it : s14i (caF tab i) (rV c ns x (some d4) none none (some st) none none) S = .ok (.tup (l14 (x.map D.str) (.str a)), false) S := by
    unfold s14i
    refine tup5 (a := (.lst (x.map D.str), true)) (b := (.tup (x.map D.str ++ [.str "nobody"]), false)) (d := (.tup (x.map D.str ++ [.int 0]), false)) (e := (.non, false)) (u := (.str a, false)) ?_ ?_ ?_ ?_ ?_
    · rfl
    · exact op2_ok (a := (nS x, false)) (b := (.tup [.str "nobody"], false)) (S1 := S) rfl rfl (add_t S (by simp only [List.length_cons, List.length_nil]; omega))
    · exact op2_ok (a := (nS x, false)) (b := (.tup [.int 0], false)) (S1 := S) rfl rfl (add_t S (by simp only [List.length_cons, List.length_nil]; omega))
    · rfl
    · exact op2_ok (a := (nS x, false)) (b := (.int 0, false)) (S1 := S) rfl rfl (by rw [e]; exact ixs S a r)
  obtain ⟨ρ', S', q1, q2, q3⟩ := forL_all (p := .nm 8) (body := sSeq (sSet 12 [2, 8] s14a) (sIf [12, 8] s14t (sRet [] (cCon (.bl false))) sPass) (caF tab i)) (fun d : D => d)
    (fun pre ρ S' => S' = S ∧ ((pre = [] ∧ ρ = zE c ns x d4 l st none (some (.lst b, true)) none) ∨ ∃ u v, ρ = zE c ns x d4 l st (some (u, false)) (some (.lst b, true)) (some (v, false)))) (l14 (x.map D.str) (.str a)) (ρ := zE c ns x d4 l st none (some (.lst b, true)) none) (S := S) ⟨rfl, .inl ⟨rfl, rfl⟩⟩ (fun pre d post ρ S' ep ⟨e1, e2⟩ => by
      subst e1
      obtain ⟨hg, hw⟩ := in14 N hs (by omega) ha (d := d) (by rw [ep]; simp)
      rcases e2 with ⟨_, rfl⟩ | ⟨u, v, rfl⟩
      · exact ⟨zE c ns x d4 l st (some (d, false)) (some (.lst b, true)) none, _, S', rfl, r14_turn hi hg hw ht d4 st l b none (.inl rfl), rfl, .inr ⟨d, _, rfl⟩⟩
      · exact ⟨zE c ns x d4 l st (some (d, false)) (some (.lst b, true)) (some (v, false)), _, S', rfl, r14_turn hi hg hw ht d4 st l b _ (.inr ⟨v, rfl⟩), rfl, .inr ⟨d, _, rfl⟩⟩)
  subst q2
  rcases q3 with ⟨q, _⟩ | ⟨u, v, rfl⟩
  · cases q
  · refine ⟨u, v, ?_⟩
    unfold sFor
    rw [exI_eq]
    unfold EV.iVal
    rw [show viewF [3] 0 (zE c ns x d4 l st none (some (.lst b, true)) none) = rV c ns x (some d4) none none (some st) none none from rfl, it]
    have e0 : (l14 (x.map D.str) (.str a)).map (fun d : D => d) = l14 (x.map D.str) (.str a) := List.map_id' _
    rw [e0] at q1
    exact q1
def s15 : SE := cOpn bAll (aOf [cComp (EV.iRng1 (cCon (.int 6))) [7] (.nm 7) tYesT (cCall ("_law_are_lots_right", none) [] (aOf [cVar 0, cVar 1, cVar 2]))])
theorem all_true {ds : List D} (h : ∀ d, d ∈ ds → d = .bl true) (S : Cells) : bAll S [.lst ds] = some (.bl true, false) := by
  have e : ds = ds.map fun _ => D.bl true := by
    conv => lhs; rw [← List.map_id' ds]
    exact List.map_congr_left h
  rw [e, bAll_map S (fun _ : D => true) ds]
  simp
theorem r15_s (hi : 5 ≤ i) (N : Names ns) {L : Shp} {M : Int} {S : Cells} (p : Ps c L M S) (hM : M < 2 ^ 35) (d4 st a8 a12 : D) (l b : List D) : ∃ S', sRet [0, 1, 2] s15 (caF tab i) (zE c ns x d4 l st (some (a8, false)) (some (.lst b, true)) (some (a12, false))) S = .ok (.rt (.bl true, false)) S' ∧ Ps c L (M + 240) S' := by
  obtain ⟨ds, S4, c1, c2, c3, c4⟩ := comp_any (it := EV.iRng1 (cCon (.int 6))) (vs := [7]) (pt := .nm 7) (e := cCall ("_law_are_lots_right", none) [] (aOf [cVar 0, cVar 1, cVar 2])) (ca := caF tab i) (ρ := rV c ns x (some d4) none (some a8) (some st) none (some a12)) (S0 := S) (fun i : Nat => D.int (i : Nat)) (List.range 6) (fun d => d = .bl true) (fun k S => Ps c L (M + 40 * k) S) (iRng1_n (n := 6) rfl (by decide)) (by simpa using p) (fun n z S hn hz hP => by
    simp at hn
    obtain ⟨S', b1, b2⟩ := lots_right_s (j := i) hi N hP (by omega)
    refine ⟨rV c ns x (some d4) none (some a8) (some st) none (some a12) |>.set 7 (some (.int (z : Nat))), .bl true, false, S', rfl, ?_, rfl, ?_⟩
    · rw [call3_ok (a := (.cel c, false)) (b := (nS ns, false)) (d := (C ns, false)) (S1 := S) (S2 := S) (S3 := S) rfl rfl rfl]
      exact b1
    · have : M + 40 * ((n + 1 : Nat) : Int) = M + 40 * (n : Int) + 40 := by omega
      rw [this]
      exact b2)
  refine ⟨S4, ?_, c4⟩
  rw [sRet_eq, show viewF [0, 1, 2] 0 (zE c ns x d4 l st (some (a8, false)) (some (.lst b, true)) (some (a12, false))) = rV c ns x (some d4) none (some a8) (some st) none (some a12) from rfl]
  unfold s15
  rw [opn1_ok c1 (all_true c2 S4)]
  rfl
end
end Lk01

namespace Lk01
open PySem PySem.Spec PyProof.Rows L2 EV
theorem f_right : f_law_right = sSeq (sSet 1 [0] (cCall ("_law_names", none) [] (aOf [cVar 0, cCon (.int 2), cCon (.int 6)]))) (sSeq (sPar [2, 3] [([1], cMake "Circle" (aOf [cVar 1])), ([0, 1], cCall ("_law_a_lot", none) [] (aOf [cVar 0, cVar 1, cCon (.int 1)]))]) (sSeq (sIf [2, 1] (tBl (cOp2 dNe (cOp1 gRepr s3a) (cOp1 gRepr s3b))) (sRet [] (cCon (.bl false))) sPass)
  (sSeq (sFor [1] (EV.iVal s4i) (.nm 4) (sIf [2, 4, 1] s4t (sRet [] (cCon (.bl false))) sPass)) (sSeq (sSet 5 [1] s5) (sSeq (sExt 5 [1, 6, 0] s6) (sSeq (sExt 5 [0, 1] s7) (sSeq (sIf [8, 5, 1] s8 (sRet [] (cCon (.bl false))) sPass) (sSeq (sSet 9 [1, 3, 0] s9) (sSeq (sIf [2, 8, 9, 10, 1] s10 (sRet [] (cCon (.bl false))) sPass)
  (sSeq (sSet 11 [3, 0] s11) (sSeq (sExt 11 [0, 3] s12) (sSeq (sIf [1, 2, 8, 11, 3] s13 (sRet [] (cCon (.bl false))) sPass) (sSeq (sFor [3] (EV.iVal s14i) (.nm 8) (sSeq (sSet 12 [2, 8] s14a) (sIf [12, 8] s14t (sRet [] (cCon (.bl false))) sPass))) (sRet [0, 1, 2] s15)))))))))))))) := rfl
/-- statements one behind the other -/
theorem seq3 {f g h k : SS} {ca : Ca} {ρ ρ' : SEn} {S S' : Cells} (e : sSeq f (sSeq g h) ca ρ S = .ok (.nx ρ') S') : sSeq f (sSeq g (sSeq h k)) ca ρ S = k ca ρ' S' := by
  unfold sSeq at e ⊢
  cases e1 : f ca ρ S with
  | no => rw [e1] at e; cases e
  | exn _ _ _ => rw [e1] at e; cases e
  | ok fl S1 =>
    rw [e1] at e
    cases fl with
    | nx ρ1 =>
      have e' : (g ca ρ1 S1).bind (fun r S => match r with
        | .nx ρ => h ca ρ S
        | r => .ok r S) = .ok (.nx ρ') S' := e
      show (g ca ρ1 S1).bind _ = _
      cases e2 : g ca ρ1 S1 with
      | no => rw [e2] at e'; cases e'
      | exn _ _ _ => rw [e2] at e'; cases e'
      | ok fl2 S2 =>
        rw [e2] at e'
        cases fl2 with
        | nx ρ2 =>
          have e3 : h ca ρ2 S2 = .ok (.nx ρ') S' := e'
          show (h ca ρ2 S2).bind _ = _
          rw [e3]
          rfl
        | _ => cases e'
    | _ => cases e
theorem seq2 {f g k : SS} {ca : Ca} {ρ ρ' : SEn} {S S' : Cells} (e : sSeq f g ca ρ S = .ok (.nx ρ') S') : sSeq f (sSeq g k) ca ρ S = k ca ρ' S' := by
  unfold sSeq at e ⊢
  cases e1 : f ca ρ S with
  | no => rw [e1] at e; cases e
  | exn _ _ _ => rw [e1] at e; cases e
  | ok fl S1 =>
    rw [e1] at e
    cases fl with
    | nx ρ1 =>
      have e3 : g ca ρ1 S1 = .ok (.nx ρ') S' := e
      show (g ca ρ1 S1).bind _ = _
      rw [e3]
      rfl
    | _ => cases e
abbrev mk3 : List Str := ["_law_is_circle_right", "_law_is_lot_due", "_law_right"]
theorem law_right_s {j : Nat} (hj : 6 ≤ j) : RightP mk3 (caF tab j) 400 := fun c L M S p hT hM => by
  obtain ⟨i, rfl, hi⟩ := fu hj
  obtain ⟨ns, S1, a1, N, p1⟩ := r1_s (i := i) (by omega) p (by omega)
  obtain ⟨x, S2, a2, hx, hn, p2⟩ := r2_s (i := i) (by omega) N p1 (by omega)
  have a3 := r3_s (i := i) (c := c) (x := x) (by omega) N S2
  obtain ⟨d4, a4⟩ := r4_s (i := i) (c := c) (x := x) (by omega) N p2.itc
  obtain ⟨l, S3, a5, hl, hz, p3⟩ := near_s (i := i) (x := x) hi N p2 (by omega) d4
  have a8 := r8_s (i := i) (c := c) (x := x) (by omega) N p3.itc (tb_in p3.shp (hT _ (by simp))) hl hz d4
  obtain ⟨od, S4, a9, ho, p4⟩ := r9_s (i := i) (ns := ns) (x := x) (by omega) p3 (by omega) d4 l
  have a10 := r10_s (i := i) (c := c) (by omega) N hx (S := S4) d4 l ho
  obtain ⟨b, S5, a11, hb, hbz, p5⟩ := bad_s (i := i) hi N hx hn p4 (by omega) d4 (.tup [nS ns, .non, .int 0, nS x, od]) l
  have a13 := r13_s (i := i) (c := c) hi N hx (tb_in p5.shp (hT _ (by simp))) hb hbz d4 (.tup [nS ns, .non, .int 0, nS x, od]) l
  obtain ⟨u, v, a14⟩ := r14_s (i := i) (c := c) (by omega) N hx hn (tb_in p5.shp (hT _ (by simp))) d4 (.tup [nS ns, .non, .int 0, nS x, od]) l b
  obtain ⟨S6, a15, p6⟩ := r15_s (i := i) (x := x) hi N p5 (by omega) d4 (.tup [nS ns, .non, .int 0, nS x, od]) u v l b
  refine ⟨S6, ?_, p6.mono (by omega)⟩
  rw [ca_eq t_law_right, runB_fn (show [D.cel c].length = 1 from rfl), f_right, sSeq_nx a1, sSeq_nx a2, iff_no a3, sSeq_nx a4, seq3 a5, iff_no a8, sSeq_nx a9, iff_no a10]
  show ((sSeq _ _ (caF tab i) (zE c ns x d4 l (.tup [nS ns, .non, .int 0, nS x, od]) none none none) S4).bind endF) = _
  rw [seq2 a11, iff_no a13, sSeq_nx a14, a15]
  rfl
theorem t_pot' : tab ("_law_pot", none) = some (.fn ⟨2, 5, potForm pg 317 181 73409 8032 239⟩) := by kernel_rfl
theorem t_cells' : tab ("_law_cells", none) = some (.fn ⟨2, 2, cellsForm pg⟩) := by kernel_rfl
theorem t_law' : tab ("law", none) = some (.fn ⟨1, 4, lawForm 4 (3 : Nat)⟩) := by kernel_rfl
theorem law_s (ns : List Int) (hn : ns.length ≤ 63) : ∃ S, caF tab 8 ("law", none) [.scr ns] (tbS pg.mks) = .ok (.bl true, false) S := by
  obtain ⟨S, e⟩ := law_spec (T := mk3) (ca := caF tab 7) (cost := 400) (by decide) (by decide) (law_right_s (by decide)) (pot_of_form (pg := pg) (P := 317) (Q := 181) (A := 73409) (B := 8032) (C := 239) (by decide) (by decide) fun ds S => ca_eq t_pot' ds S) (lap := 3) (by decide) (lim := 4) (cells_of_form (pg := pg) (by decide) fun ds S => ca_eq t_cells' ds S) ns hn
  exact ⟨S, by rw [ca_eq t_law']; exact e⟩
end Lk01

namespace Lk01
open PySem PySem.Spec PyProof.Rows L2 EV
abbrev rowR : PySem.W.OpenRow := PySem.W.OpenLaw.row PySem.Challenge.rw_lotkeepers_k01_whole_circles_and_lots
def loose : List Str := (["LotError", "BadNames", "BadLot", "SIGNS", "MOST_SIGNS", "is_tuple", "is_word", "is_name", "are_unlike", "FEWEST_KEEPERS", "MOST_KEEPERS", "lot_of", "lots_of", "Circle", "is_lot", "check_lot", "lots", "both", "either", "_law_pot", "_law_take", "_law_of", "_law_some", "_law_cells", "_law_heard"] : List Str) ++ (["_law_odd", "_law_bent", "_law_names", "_law_lot_of", "_law_both", "_law_all_lots", "_law_is_lot", "_law_a_lot", "_law_are_names", "_law_is_circle_right", "_law_are_lots_right", "_law_is_lot_due", "_law_right"] : List Str)
abbrev hk : PySem.W.Hook := hookV 5 hd
def ob (s : PySem.W.SharedT) : AlV × Bool := obsVG 5 hd (HandSHeadRun.getT s)
theorem ob_eq (s : PySem.W.SharedT) : ob s = hk.obs s.abs := obsVG_eq (HandSHeadRun.getT_eq s)
theorem run (w : World) : HandSHeadRun.RunEq rowR (PySem.W.view rowR.prog [42]) hk ob 20000 loose w := by
  intro os
  kernel_rfl
end Lk01

namespace Lk01
open PySem PySem.Spec PyProof.Rows L2 EV
theorem fix {w : World} {K : PySem.W.Frag} {hp : Heap} {mg : Str → Option Value} (X : K.In hp) (G : hp.Ns mainGlobals mg) (c : obsV hd K = valV' hd) : PgFix prog w K mg pg tab :=
  fix_of X G c rfl (.inl (by kernel_rfl)) (by kernel_rfl) rfl rfl rfl (fns_of (more := more) rfl rfl defs) rfl (fun A E _ => heard A E) (cls_of rfl rfl clss)
theorem rm : Rm (4 * 8 + 2) callerA := ⟨⟨rfl, by decide, by decide⟩, rfl⟩
end Lk01
open PySem PySem.W PySem.Calls PyProof.Rows
theorem PySem.Challenge.cw_lotkeepers_k01_whole_circles_and_lots_holds : PySem.Challenge.rw_lotkeepers_k01_whole_circles_and_lots.Holds := by
  w_on; o_law
  refine HandSHeadRun.head_any (r := Lk01.rowR) (q := view Lk01.rowR.prog [42]) (H := Lk01.hk) (ob := Lk01.ob) (M := 20000) (loose := Lk01.loose) (d := HandSHeadRun.topDef Lk01.rowR.prog 42) (kwd := []) Lk01.ob_eq
    (by kernel_rfl) (fun s => by kernel_rfl) Lk01.run (by kernel_rfl) (by kernel_rfl) (by kernel_rfl) (by rfl) (by first | assumption | decide +kernel) (by decide +kernel) ⟨rfl, rfl, rfl, rfl, rfl, by decide +kernel⟩ ?hw ?hc
  case hw => w_witness2
  case hc =>
    refine EV.walk_ev (l := PySem.Challenge.rw_lotkeepers_k01_whole_circles_and_lots) (n := 63) (k := 8) (x := "_law_script") (pg := Lk01.pg) (tab := Lk01.tab) rfl (by decide) (by kernel_rfl) Lk01.rm ?F (by kernel_rfl) ?ev
    case F =>
      intro w mg h Y G
      obtain ⟨K, KX, c, tt⟩ := Y
      exact ⟨K, KX, Lk01.fix KX G c, tt⟩
    case ev =>
      intro ns hn
      have := Lk01.law_s ns hn
      exact this
