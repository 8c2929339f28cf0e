import PyProof.Rows.All
import Wide.All
import OpenK.AllK
import Wide.FinOn
import KE.KExcSuper
import KE.KExcInit
import HandS.ForMost
import HandS.ForExc
import HandS.ExcSuper
import HandS.ExcField
import HandS.FStr
import HandS.IsInst
import HandS.Small
import HandS.OwnEq
import KE.GoesMore
import KE.GoesZip
import KE.GoesEnum
import HandS.TryMany
import HandS.Style
import HandS.Defaults
import PySem.Challenge.RW_deeplooks_k82_registers
import HandS.Wide
import HandS.Deep
import HandS.TupAny
import KE.KExcLine
import KE.RegKIsAll
import KE.RegKSuper
set_option Elab.async false
set_option linter.all false
set_option maxRecDepth 100000
set_option maxHeartbeats 4000000
/-! exceptions of the program: X(DeepError), DeepError(Exception), with super().__init__(f'X: {fld}'); self.fld = fld -/
namespace PySem
namespace Dx
open PySem.W PySem.Calls PyProof.Rows PySem.HandSPX
abbrev tail3 : List Value := [.type "Exception", .type "BaseException", .type "object"]
def sArgs (fld : Str) (p1 p2 : Pos) : Arguments := { posonlyargs := [], args := [{ arg := "self", annotation := none, pos := p1 }, { arg := fld, annotation := none, pos := p2 }], vararg := none, kwonlyargs := [], kw_defaults := [], kwarg := none, defaults := [] }
def sBody (pre fld : Str) (q : Nat → Pos) : List Stmt := [.Expr (.Call (.Attribute (.Call (.Name "super" (q 0)) [] [] (q 1)) "__init__" (q 2)) [.JoinedStr [.Constant (.str pre) 0 (q 3), .FormattedValue (.Name fld (q 4)) (-1) none (q 5)] (q 6)] [] (q 7)) (q 8),
  .Assign [.Attribute (.Name "self" (q 9)) fld (q 10)] (.Name fld (q 11)) (q 12)]
def sScope (fld : Str) : Scope := { kind := .function, names := [(PySem.Str.ofString "self", .local), (fld, .local), (PySem.Str.ofString "__class__", .free), (PySem.Str.ofString "super", .globalImplicit)], isGenerator := false, isCoroutine := false, more := [] }
/-- a method's call on one line -/
theorem method_line {o : Expr} {name : Str} {apos pos : Pos} {e : Expr} {env : Env} (h : (apos.endLine == pos.line) = true) (he : starEach [e] env = [(false, eval e env)]) :
    eval (.Call (.Attribute o name apos) [e] [] pos) env = (do
      let ov ← attributeBase o name env (eval o env)
      standAt apos.atName
      let (f, first) ← holding [ov] (getMethod ov name (do return (← importBound o env).getD true))
      callWith pos f first (backTo pos (starEach [e] env)) []) := by
  show (attributeBase o name env (eval o env) >>= fun ov => standAt apos.atName >>= fun _ => methodCall o name apos pos env ov 1 (backTo pos (starEach [e] env)) []) = _
  have hf : methodCallForm 1 (backTo pos (starEach [e] env)) [] = true := by rw [he]; rfl
  congr 1
  funext ov
  congr 1
  funext _
  unfold methodCall calleeOf methodCallPos
  rw [hf, h, if_pos rfl]
  rfl
/-- an error of the class at D against a clause that names S -/
theorem exm_of {K : Frag} {S D : Addr} {b : Bool} (h1 : subIn K (.ref S) (.type "BaseException") = some true) (h2 : isClsIn K S = true) (h3 : typeIn K (.ref S) = some (.type "type")) (h4 : subIn K (.ref D) (.ref S) = some b) : exmOne K (.ref D) (.ref S) = some b := by
  have e1 : (subIn K (.ref S) (.type "BaseException") == some true) = true := by rw [h1] <;> rfl
  have e2 : ((clsIn K S).isSome && typeIn K (.ref S) == some (.type "type")) = true := by
    have h2' : (clsIn K S).isSome = true := h2
    rw [h2', h3] <;> rfl
  show (if (subIn K (.ref S) (.type "BaseException") == some true) = true then (if ((clsIn K S).isSome && typeIn K (.ref S) == some (.type "type")) = true then subIn K (.ref D) (.ref S) else none) else none) = some b
  rw [if_pos e1, if_pos e2]
  exact h4
/-- what the written part says of the class at C and of its __init__ at fI -/
structure Txt (prog : Program) (K : Frag) (mg : Str → Option Value) (nm qual pre fld : Str) (C fI : Addr) : Prop where
  gC : mg nm = some (.ref C)
  q : excInitIn K C tail3 "Exception.__new__" = true
  ov : excOver K C tail3 = true
  tkr : takerIn K C fld = some none
  sa : findIn K (.ref C) "__setattr__" = some (some (.builtin "object.__setattr__"))
  ga : findIn K (.ref C) "__getattribute__" = some (some (.builtin "BaseException.__getattribute__"))
  gg : findIn K (.ref C) "__getattr__" = some none
  noN : findIn K (.ref C) fld = some none
  iC : findIn K (.ref C) "__init__" = some (some (.ref fI))
  tI : typeIn K (.ref fI) = some (.type "function")
  kC : keepIn K (.ref C) = true
  exC : subIn K (.ref C) (.type "BaseException") = some true
  sE : subIn K (.ref C) (.type "Exception") = some true
  tyC : typeIn K (.ref C) = some (.type "type")
  hdC : hasDictIn K C = true
  te : exmOne K (.ref C) (.ref C) = some true
  mC : mroIn K C (.ref C) = some true
  cC : isClsIn K C = true
  sup : ks_superIn K C C "__init__" = some (some (.builtin "Exception.__init__"))
  opq : nsIn K cStatics "thirdparty.any" = some none
  gsup : mg "super" = none
  pl : pre.length ≤ 1000
  main : (prog.main.scope.names.lookup ("super" : Str)).isSome = false
  fn : ∃ (oc : Value) (od : Option Addr) (doc pm : Value) (an : Option Addr) (cda : Addr) (ct : Value) (osl : Array (Option Value)) (cc : Addr) (p1 p2 : Pos) (q : Nat → Pos) (cl ccl : Value) (cld cdd : Option Addr) (csl ccs : Array (Option Value)) (vs : Array Value) (file : Str) (tf : Tok),
    K.lookup fI = some ⟨oc, od, .func (ksFn "__init__" qual (sArgs fld p1 p2) (sBody pre fld q) (sScope fld) .none .none doc pm an (.ref cda) ct cc), osl⟩ ∧ codeIn K (.ref cda) qual = true ∧ K.lookup cc = some ⟨cl, cld, .cell (some (.ref C)), csl⟩ ∧
    K.lookup cda = some ⟨ccl, cdd, .fields vs, ccs⟩ ∧ vs[2]? = some (.str file tf) ∧ ((prog.main.file : Str) == file) = true ∧ ((q 2).endLine == (q 7).line) = true
/-- what __init__ leaves -/
structure InitEnd (h h' : Heap) (x C dx t1 : Addr) (fld : Str) (v : Value) : Prop where
  keep : ∀ b o, b ≠ x → h.get? b = some o → h'.get? b = some o
  obj : h'.get? x = some { cls := .ref C, dict := some dx, data := .fields #[.ref t1, .none, .none, .none, .bool false, .none] }
  dbig : h.objs.size ≤ dx
  dne : dx ≠ x
  ns : h'.Ns1 dx (fun y => if y = fld then some v else none)
/-- a made one -/
structure Made (h h' : Heap) (e C d : Addr) (fld : Str) (v : Value) : Prop where
  keep : ∀ b o, h.get? b = some o → h'.get? b = some o
  new : h.objs.size ≤ e
  obj : ∃ oe vs, h'.get? e = some oe ∧ oe.cls = .ref C ∧ oe.dict = some d ∧ oe.data = .fields vs ∧ vs[1]? = some .none
  dbig : h.objs.size ≤ d
  dne : d ≠ e
  ns : h'.Ns1 d (fun y => if y = fld then some v else none)
/-- a value that an f-string can write here -/
inductive Fmt : Value → Prop
  | str (y : Str) (t : Tok) (h : y.length ≤ 1000) : Fmt (.str y t)
  | int (i : Int) (t : Tok) (h : i.natAbs.log2 < 1900) : Fmt (.int i t)
theorem log_text {i : Int} (h : i.natAbs.log2 < 1900) : (toString i : Str).length ≤ sizeLine := PySem.int_text_fits (by omega)

section
variable {prog : Program} {w : World} {A : Around} {E : Value → Shared → Prop} {R : Result → Shared → Prop} {s : Shared} {K : Frag} {mg : Str → Option Value} {nm qual pre fld : Str} {C fI : Addr}
/-- self.fld = v on an exception without a dict -/
theorem store0 (T : Txt prog K mg nm qual pre fld C fI) {x t0 : Addr} {v : Value} {Q : Unit → Shared → Prop} (X : K.In s.heap) (hx : s.heap.get? x = some (excO C t0))
    (hq : ∀ h' tk dx, (∀ b o, b ≠ x → s.heap.get? b = some o → h'.get? b = some o) → s.heap.objs.size ≤ dx → dx ≠ x → h'.get? x = some { cls := .ref C, dict := some dx, data := .fields #[.ref t0, .none, .none, .none, .bool false, .none] } →
      h'.Ns1 dx (fun y => if y = fld then some v else none) → Q () { s with heap := h', toks := tk }) : wpAny (model prog w) A (setAttr (.ref x) fld v) Q E s := by
  have SF := F.store_Exception
  obtain ⟨cd, hc, hh⟩ := any_some T.hdC
  have hxs : x ≠ s.heap.objs.size := Nat.ne_of_lt (Heap.lt_size hx)
  obtain ⟨hp, g, d, t, os⟩ := s
  refine set_plain (od := none) X ⟨hx, rfl, rfl, trivial⟩ T.sa ?_
  refine osa_openX (od := none) SF X ⟨hx, rfl, rfl, trivial⟩ T.ov T.tkr fun b => ?_
  refine wpAny_bind (wpAny_pure (wpAny_bind (instanceDict_exc (c2 := .none) hx (looks_clsIn X hc) hh ?_)))
  show wpAny _ _ (Builtin.ObjectAttr.storeInDict hp.objs.size _ _ _) _ _ _
  refine HandSPX.store_in_new ?_ fun h' tk' hn' hs => ?_
  · exact ⟨_, #[], _, (Heap.get?_update_ne _ _ _ _ hxs.symm).trans (Heap.get?_push_at rfl rfl), rfl, fun e he => absurd he (by simp), fun _ => rfl⟩
  · have hx₁ : (hp.push (dictOf [] 0)).get? x = some (excO C t0) := Heap.get?_push_of_some _ hx
    refine hq h' tk' hp.objs.size (fun b o hb ho => ?_) (Nat.le_refl _) hxs.symm ?_ hn'
    · exact (hs.2 b (Nat.ne_of_lt (Heap.lt_size ho))).trans ((Heap.get?_update_ne _ _ _ _ hb).trans (Heap.get?_push_of_some _ ho))
    · exact (hs.2 x hxs).trans (Heap.get?_update_self _ hx₁ rfl)
/-- the f-string of the message -/
theorem int_len {i : Int} (h : i.natAbs.log2 < 1900) : (toString i : Str).length ≤ 10000000 := by
  have e := int_text_length_le (a := i) (k := 1900) (by decide) h
  show (Str.ofString (toString i)).length ≤ _
  rw [ofString_length]
  omega
theorem eval_msg {env : Env} {m : Str → Option Value} {p1 p2 p3 p4 : Pos} {v : Value} {Q : Value → Shared → Prop} (hp : pre.length ≤ 1000) (hv : Fmt v) (hk : env.scope.kind = .function) (hl : env.kindOf fld = some .local) (hn : s.heap.Ns env.locals m) (hm : m fld = some v)
    (hd : (fld == ("__debug__" : Str)) = false) (h : ∀ y tk tk', Q (.str y tk) { s with toks := tk' }) :
    wpAny (model prog w) A (eval (.JoinedStr [.Constant (.str pre) 0 p1, .FormattedValue (.Name fld p2) (-1) none p3] p4) env) Q E s := by
  refine wpAny_JoinedStr ?_
  have e0 : (Str.empty ++ pre).length = pre.length := by rw [Str.length_append]; show 0 + _ = _; omega
  have key : ∀ (y : Str), y.length ≤ 10000000 → ((Str.empty ++ pre) ++ y).length ≤ sizeLine := fun y hy => by
    rw [Str.length_append, e0, sizeLine_eq]
    omega
  show Joins _ _ _ [eval (.Constant (.str pre) 0 p1) env, eval (.FormattedValue (.Name fld p2) (-1) none p3) env] _ _ _
  refine Calls.Constant_str ⟨pre, _, rfl, by rw [e0, sizeLine_eq]; omega, ?_⟩
  refine wpAny_FormattedValue_plain (wpAny_Name (wpAny_loadName_local hk hl hn hm ?_) hd)
  cases hv with
  | str y tk hy =>
    have hy' : y.length ≤ 10000000 := by omega
    refine wpAny_formatField_str ⟨y, _, rfl, key y hy', key y hy', h _ _ _⟩ ⟨y, _, rfl, key y hy', key y hy', h _ _ _⟩ (by rw [sizeLine_eq]; omega)
  | int i tk hi => exact wpAny_formatField_int (by omega) ⟨_, _, rfl, key _ (int_len hi), key _ (int_len hi), h _ _ _⟩
/-- __init__ of such an exception -/
theorem init (T : Txt prog K mg nm qual pre fld C fI) {mb : Str → Option Value} {x t0 : Addr} {v : Value} (X : K.In s.heap) (G : s.heap.Ns mainGlobals mg) (B : s.heap.Ns builtinsNs mb) (hb : mb "super" = bootBuiltins "super") (hlim : s.heap.NoLimit) (hx : s.heap.get? x = some (excO C t0))
    (hroom : A.depth < recursionLimit) (hv : Fmt v) (hf1 : fld = "name" ∨ fld = "place") (nKx : K.lookup x = none)
    (hq : ∀ h' tk dx t1, InitEnd s.heap h' x C dx t1 fld v → R (.ok (.ret .none)) { s with heap := h', toks := tk }) :
    codeAny (model prog w) A (.call (.ref fI) ⟨[.ref x, v], []⟩) R s := by
  obtain ⟨oc, od, doc, pm, an, cda, ct, osl, cc, p1, p2, q, cl, ccl, cld, cdd, csl, ccs, vs, file, tf, ho, hcd, hcc, hca, hvs, hfile, hl7⟩ := T.fn
  obtain ⟨cdC, hcC⟩ := Option.isSome_iff_exists.mp (show (clsIn K C).isSome = true from T.cC)
  have X0 := X
  obtain ⟨hp, g, d, t, os⟩ := s
  have fl1 : (sScope fld).names.lookup fld = some .local := by rcases hf1 with rfl | rfl <;> decide +kernel
  have fd1 : (fld == ("__debug__" : Str)) = false := by rcases hf1 with rfl | rfl <;> decide +kernel
  have kc1 : (sScope fld).names.lookup ("__class__" : Str) = some .free := by rcases hf1 with rfl | rfl <;> decide +kernel
  have ks1 : (sScope fld).names.lookup ("super" : Str) = some .globalImplicit := by rcases hf1 with rfl | rfl <;> decide +kernel
  have fs1 : ¬ (fld = "self") := by rcases hf1 with rfl | rfl <;> decide +kernel
  refine ks_codeAny_call_defAt (binds := [("self", .ref x), (fld, v)]) hroom (X _ _ ho) rfl hlim (codeRec_of X hcd) rfl (BindsTo.of_eq ?_) ?_ ?_ (fun h₁ hns k => ?_)
  · rcases hf1 with rfl | rfl <;> rfl
  · intro y hy
    have : ∀ z ∈ (sScope fld).names, z.2 ≠ .cell := by
      intro z hz
      simp only [sScope, List.mem_cons, List.not_mem_nil, or_false] at hz
      rcases hz with rfl | rfl | rfl | rfl <;> simp
    exact this y hy
  · intro y hy
    simp only [List.mem_cons, List.not_mem_nil, or_false] at hy
    rcases hy with rfl | rfl
    · show (sScope fld).names.lookup _ = _
      rfl
    · exact fl1
  have hk2 : ∀ b o, hp.get? b = some o → h₁.get? b = some o := k
  have hx₁ := hk2 _ _ hx
  have X₁ : K.In h₁ := X.keeps hk2
  have hlim₁ : h₁.NoLimit := hlim.keeps hk2
  have hnc : ∀ c, (excO C t0).data ≠ .cls c := fun c z => nomatch z
  obtain ⟨oD, hD1, hD2⟩ : ∃ oD, h₁.get? C = some oD ∧ oD.data = .cls cdC := by
    have z := hcC
    unfold clsIn at z
    split at z
    · rename_i c d cd' sl hoC
      cases z
      exact ⟨_, X₁ _ _ hoC, rfl⟩
    · cases z
  obtain ⟨nmC, N', qn, bs, bm, hdct, sn, sub, ab, col, dd, k0, k1, k2, k3, k5, hC, hT⟩ := excInit_of X₁ T.q
  show _root_.PySem.wpAt _ _ _ (execs (sBody pre fld q) _) _ _ _
  refine ks_wpAt_execs_cons (ks_wpAt_Expr_any (ks_wpAt_MethodCall ?_ (method_line hl7 rfl)))
  refine ks_wpAt_super_base (fd := ksFn "__init__" qual (sArgs fld p1 p2) (sBody pre fld q) (sScope fld) .none .none doc pm an (.ref cda) ct cc) ks1 kc1 rfl rfl (X₁ _ _ ho) rfl rfl rfl (X₁ _ _ hca) rfl hvs hfile T.main ?_
  refine ks_loadName_global rfl ks1 (loadGlobal_builtin (G.keeps hk2) T.gsup (B.keeps hk2) (hb.trans (by boot_by_name)) ⟨rfl, ?_⟩)
  refine wpAny_loadName_free (c := cc) rfl kc1 rfl ⟨_, X₁ _ _ hcc, rfl⟩ ?_
  refine wpAny_loadName_local rfl rfl hns (v := .ref x) (by rcases hf1 with rfl | rfl <;> rfl) ?_
  refine ks_wpAny_isType_cls hD1 hD2 ⟨rfl, ?_⟩
  refine ks_wpAny_call_super hD1 hD2 hx₁ rfl hnc (looks_mroIn X₁ T.mC) (fun h2 hso k2 => ?_)
  have X2 : K.In h2 := X₁.keeps k2
  have hx2 := k2 _ _ hx₁
  have I2 : InstAt h2 x (excO C t0) C none := ⟨hx2, rfl, rfl, trivial⟩
  have hsup : alongIn K "__init__" ((cdC.mro.dropWhile (· != .ref C)).drop 1) = some (some (.builtin "Exception.__init__")) := by
    have z := T.sup
    unfold ks_superIn at z
    rw [hcC] at z
    exact z
  have hxC : x ≠ C := ks_ne X2 I2 hcC
  refine kxs_getMethod kxs_Exception hso (looks_opaque X2 T.opq) ((looks_clsIn X2 hcC).andThen .now) rfl X2 hsup (I2.type.andThen (looks_subIn X2 T.sE)) hxC rfl ?_
  refine PySem.ESX.callWith_bound (x := x) (Calls.spliced_cons ?_)
  have hns3 : (h2.push (kxs_mw "Exception.__init__" x)).Ns hp.objs.size fun y => List.lookup y [(("self" : Str), Value.ref x), (fld, v)].reverse := by
    obtain ⟨oL, es, ep, hL, r⟩ := hns
    exact ⟨oL, es, ep, Heap.get?_push_of_some _ (k2 _ _ hL), r⟩
  have lk : List.lookup fld [(("self" : Str), Value.ref x), (fld, v)].reverse = some v := by
    show List.lookup fld [(fld, v), (("self" : Str), Value.ref x)] = some v
    simp [List.lookup]
  refine eval_msg (pre := pre) (p4 := q 6) T.pl hv rfl fl1 hns3 lk fd1 (fun y tk tk' => Calls.spliced_nil ⟨?_, ?_⟩)
  · exact Heap.get?_push_at rfl rfl
  have kp : ∀ b o, h2.get? b = some o → (h2.push (kxs_mw "Exception.__init__" x)).get? b = some o := fun b o e => Heap.get?_push_of_some _ e
  have one : [Value.str y tk].length ≤ sizeLine := by rw [sizeLine_eq]; exact (by decide : 1 ≤ 16777216)
  refine PySem.ESX.call_bw (kp _ _ (k2 _ _ hC)) (kp _ _ hx2) (Heap.get?_push_at rfl rfl) one fun h4 t4 k4 hx4 => ?_
  -- self.fld = fld
  have kx : ∀ b o, b ≠ x → h₁.get? b = some o → h4.get? b = some o := fun b o hb e => k4 b o hb (kp _ _ (k2 _ _ e))
  have hLx : hp.objs.size ≠ x := Nat.ne_of_gt (Heap.lt_size hx)
  have hns4 : h4.Ns hp.objs.size fun y => List.lookup y [(("self" : Str), Value.ref x), (fld, v)].reverse := by
    obtain ⟨oL, es, ep, hL, r⟩ := hns
    exact ⟨oL, es, ep, kx _ _ hLx hL, r⟩
  have X4 : K.In h4 := fun a o e => kx a o (fun z => by rw [z, nKx] at e; cases e) (X₁ a o e)
  show _root_.PySem.wpAt _ _ _ (execs [.Assign [.Attribute (.Name "self" (q 9)) fld (q 10)] (.Name fld (q 11)) (q 12)] _) _ _ _
  refine wpAt_of_wpAny (wpAny_execs_cons (plainObj_wpAny_Assign_Attribute ?_))
  refine wpAny_Name (wpAny_loadName_local rfl fl1 hns4 lk ?_) fd1
  refine wpAny_Name (wpAny_loadName_local (v := .ref x) rfl rfl hns4 ?_ ?_) rfl
  · rcases hf1 with rfl | rfl <;> rfl
  refine store0 T X4 hx4 fun h5 tk5 dx k5 hd5 dne hx5 hn5 => ?_
  show wpAny _ _ (execs [] _) _ _ _
  have sz4 : hp.objs.size ≤ h4.objs.size := by
    obtain ⟨oL, es, ep, hL, r⟩ := hns4
    exact Nat.le_of_lt (Heap.lt_size hL)
  exact wpAny_execs_nil (hq h5 tk5 dx t4 ⟨fun b o hb e => k5 b o hb (kx b o hb (hk2 b o e)), hx5, Nat.le_trans sz4 hd5, dne, hn5⟩)
theorem made (T : Txt prog K mg nm qual pre fld C fI) {mb : Str → Option Value} {v : Value} (X : K.In s.heap) (G : s.heap.Ns mainGlobals mg) (B : s.heap.Ns builtinsNs mb) (hb : mb "super" = bootBuiltins "super") (hlim : s.heap.NoLimit)
    (hroom : A.depth + 1 < recursionLimit) (hv : Fmt v) (hf1 : fld = "name" ∨ fld = "place")
    (hq : ∀ h' tk e d, Made s.heap h' e C d fld v → R (.ok (.ret (.ref e))) { s with heap := h', toks := tk }) :
    codeAny (model prog w) A (.call (.ref C) ⟨[v], []⟩) R s := by
  obtain ⟨nmC, N', qn, bs, bm, hdct, sn, sub, ab, col, dd, k0, k1, k2, k3, k5, hC, hT⟩ := excInit_of X T.q
  obtain ⟨hp, g, dr, tk, os⟩ := s
  have k : ∀ b o, hp.get? b = some o → ((hp.push (kdv_tup [v])).push (excO C hp.objs.size)).get? b = some o := fun b o e => Heap.get?_push_of_some _ (Heap.get?_push_of_some _ e)
  have hget : ((hp.push (kdv_tup [v])).push (excO C hp.objs.size)).get? (hp.objs.size + 1) = some (excO C hp.objs.size) := by heap_get
  have hnx : K.lookup (hp.objs.size + 1) = none := by
    cases e : K.lookup (hp.objs.size + 1) with
    | none => rfl
    | some o =>
      have z : hp.get? (hp.objs.size + 1) = some o := X _ _ e
      exact absurd (Nat.lt_of_succ_lt (Heap.lt_size z)) (Nat.lt_irrefl _)
  have one : [v].length ≤ sizeLine := by rw [sizeLine_eq]; exact (by decide : 1 ≤ 16777216)
  refine call_own F.excBase_Exception hT hC (looks_findIn X T.iC) (fun self => bind_fn X self T.tI) one ?_
  refine init (s := ⟨(hp.push (kdv_tup [v])).push (excO C hp.objs.size), g, dr, tk, os⟩) T (X.keeps k) (G.keeps k) (B.keeps k) hb (hlim.keeps k) hget ?_ hv hf1 hnx fun h' tk' dx t1 ⟨k', hx, dn, dne, hns⟩ => ?_
  · show A.depth + 1 < recursionLimit
    exact hroom
  · have old : ∀ b o, hp.get? b = some o → h'.get? b = some o := fun b o e => k' b o (Nat.ne_of_lt (Nat.lt_succ_of_lt (Heap.lt_size e))) (k b o e)
    have z : hp.objs.size + 1 + 1 ≤ dx := by
      have q := dn
      simp only [Heap.size_push] at q
      exact q
    exact ⟨rfl, hq h' tk' (hp.objs.size + 1) dx ⟨old, Nat.le_succ _, ⟨_, _, hx, rfl, rfl, rfl, rfl⟩, Nat.le_trans (Nat.le_trans (Nat.le_succ _) (Nat.le_succ _)) z, dne, hns⟩⟩
end
end Dx
end PySem
namespace L2
open PySem PySem.Spec PyProof.Rows
theorem relO_one {v : V} {v' : Value} (r : RelV v v') (fld f : Str) : RelO (List.lookup f [(fld, v)]) (if f = fld then some v' else none) := by
  by_cases hw : f = fld
  · subst hw
    rw [if_pos rfl]
    have q : List.lookup f [(f, v)] = some v := by simp [List.lookup]
    rw [q]
    exact r
  · rw [if_neg hw]
    have qw : (f == fld) = false := by simpa using hw
    have q2 : List.lookup f [(fld, v)] = none := by simp [List.lookup, qw]
    rw [q2]
    trivial
/-- what the message can write -/
def fmtV : V → Prop
  | .str y => y.length ≤ 1000
  | .int i => i.natAbs.log2 < 1900
  | _ => False
theorem fmt_of {v : V} {u : Value} (r : RelV v u) (h : fmtV v) : PySem.Dx.Fmt u := by
  cases v with
  | str y => obtain ⟨t, rfl⟩ := r; exact .str y t h
  | int i => obtain ⟨t, rfl⟩ := r; exact .int i t h
  | _ => exact h.elim
section
variable {X : Cx} {C fI : Addr} {nm qual pre fld : Str}
/-- X(e): fmtV says which values the message takes -/
def tMkD (C : Addr) (fld : Str) (ta : TA) : St → Hp → XK → Prop := fun σ H Q => ta σ H fun vs H1 => ∃ v, vs = [v] ∧ fmtV v ∧ ∀ d, H1 d = none → Q (.ref C) (some d) (upd H1 d (.xd [(fld, v)]))
theorem pmk_deep {a : Expr} {ta : TA} {p pos : Pos} {k : Nat} (T : PySem.Dx.Txt X.prog X.K X.mg nm qual pre fld C fI) (hf1 : fld = "name" ∨ fld = "place") (hr : Room k X.A) (ha : PA X [a] ta) (hg : Gl X nm := by rfl) (hnd : (nm == ("__debug__" : Str)) = false := by decide)
    (he : starEach (a :: []) X.env = (false, eval a X.env) :: starEach [] X.env := by rfl) (hpl : (backTo pos (starEach [] X.env)).any (·.1) = false := by rfl) :
    PMk X (.Call (.Name nm p) [a] [] pos) (tMkD C fld ta) := by
  intro pins s σ H Q I h
  refine wpAny_Call_Name_kw (ld_glob I hg T.gC ?_ hnd)
  refine PySem.W.callWith_K (h₀ := X.base) I.ok.mod.kin T.kC (thn (ha.run pos pins s σ H _ I h) fun us s1 hh => ?_) he hpl
  obtain ⟨vs, H1, I1, r1, v, ev, hfm, q1⟩ := hh
  subst ev
  refine ⟨I1.kIn, ?_⟩
  cases r1 with
  | cons rv rn =>
    rename_i v' us'
    cases rn
    show wpAny _ _ (call (.ref C) [v']) _ _ _
    have hlim := I1.nolimit
    have hG := I1.mod.glob.keeps I1.bk
    obtain ⟨mb, hB, hB2⟩ := I1.mod.blt
    have hB' := hB.keeps I1.bk
    have hX := I1.kIn
    obtain ⟨hp, g, dr, tk, os⟩ := s1
    refine wpAny_call (PySem.Dx.made T hX hG hB' (hB2 _ (by decide)) hlim (by have := hr.dp; omega) (fmt_of rv hfm) hf1 fun h' tk' e d M => ?_)
    show MkP X pins σ Q (.ref e) ⟨h', g, dr, tk', os⟩
    obtain ⟨oe, fv, hoe, hc, hd, hdat, h1⟩ := M.obj
    have hns := M.ns
    obtain ⟨G', g1, g2⟩ := restrict h' fun b => decide (b ≠ e)
    have gk : ∀ b, b ≠ e → G'.get? b = h'.get? b := fun b hb => g1 b (decide_eq_true hb)
    have ge : G'.get? e = none := g2 e (by simp)
    have old : ∀ b o, hp.get? b = some o → G'.get? b = some o := fun b o q => (gk b (Nat.ne_of_lt (Nat.lt_of_lt_of_le (Heap.lt_size q) M.new))).trans (M.keep b o q)
    have ob : ObjOk X.prog X.w (upd H1 d (.xd [(fld, v)])) G' d (.xd [(fld, v)]) :=
      ⟨_, hns.at (fun o q => (gk d M.dne).trans q), fun f => relO_one rv fld f⟩
    have J : Inv X pins σ (upd H1 d (.xd [(fld, v)])) ⟨G', g, dr, tk', os⟩ := I1.laid (t' := tk') old M.dbig ob
    refine ⟨e, oe, fv, ⟨G', g, dr, tk', os⟩, _, .ref C, some d, rfl, J, fun b o q => ?_, ge, hoe, ⟨hc, hd⟩, hdat, h1, ?_, rfl, I1.bare, raises_own T.exC T.tyC, q1 d (I1.hok.fresh M.dbig)⟩
    · by_cases hb : b = e
      · have q' : G'.get? b = some o := q
        rw [hb, ge] at q'; cases q'
      · exact (gk b hb).symm.trans q
    · rw [upd_ne (Ne.symm M.dne)]
      exact I1.hok.fresh M.new
end
end L2
/-! C() without an own __init__; C(..) within a try; == by an own __eq__ with any answer; bool of any small thing; a, b = a list or a tuple -/
namespace L2
open PySem PySem.Spec PyProof.Rows
section
variable {X : Cx} {CX : CXT} {k : Nat} {f C : Addr} {fd : FuncData} {ps : List Str} {sp : Sp} {E : St → XK} {x : Str} {p pos : Pos} {e : Expr} {es : List Expr} {ta : TE} {t : TA}
/-- what C(..) may let out, at the slots -/
def tMakeS (C : Addr) (sp : Sp) (E : St → XK) (t : TA) : TE := fun σ H Q => t σ H fun vs H1 => ∀ x dx, H1 x = none → H1 dx = none → dx ≠ x →
  sp (.ref x :: vs) (upd (upd H1 dx (.own x)) x (.ins C dx [])) (fun v H2 => v = .non ∧ Q (.ref x) H2) (E σ)
theorem pe_makeS (M : Mk X.K C f) (F : FnOk X.prog X.w X.K X.mg X.base CX k f fd ps sp) (hr : Room (k + 1) X.A) (hg : Gl X x) (hm : X.mg x = some (.ref C)) (hb : Binds X.K fd ps []) (hx : ∀ σ, PassesAt CX X σ (E σ))
    (ha : PA X (e :: es) t) (hdb : (x == ("__debug__" : Str)) = false := by decide) (he : starEach (e :: es) X.env = (false, eval e X.env) :: starEach es X.env := by rfl) (hpl : (backTo pos (starEach es X.env)).any (·.1) = false := by rfl) :
    PE X (.Call (.Name x p) (e :: es) [] pos) (tMakeS C sp E t) := by
  refine ⟨fun pins s σ H Q I h => ?_⟩
  refine wpAny_Call_Name_kw (ld_glob I hg hm ?_ hdb)
  refine PySem.W.callWith_K (h₀ := X.base) I.ok.mod.kin M.kp (thn (ha.run pos pins s σ H _ I h) fun us s1 ⟨vs, H1, I1, r, q⟩ => ⟨I1.kIn, ?_⟩) he hpl
  show wpAny _ _ (call (.ref C) us) _ _ _
  have hq := q (s1.heap.objs.size + 1) s1.heap.objs.size (I1.hok.fresh (Nat.le_succ _)) (I1.hok.fresh (Nat.le_refl _)) (Nat.ne_of_lt (Nat.lt_succ_self _))
  have I2 := Inv.made (C := C) I1
  have r2 : Vals (V.ref (s1.heap.objs.size + 1) :: vs) (Value.ref (s1.heap.objs.size + 1) :: us) := .cons rfl r
  have hl : (Value.ref (s1.heap.objs.size + 1) :: us).length = ps.length := by
    have e := r2.length; rw [F.len _ _ _ _ hq] at e; exact e.symm
  have bb := hb { s1 with heap := (s1.heap.push PySem.W.emptyDict).push (PySem.W.instObj C s1.heap.objs.size) } (Value.ref (s1.heap.objs.size + 1) :: us) I2.kIn (by rw [List.append_nil]; exact hl)
  rw [List.append_nil] at bb
  refine wpAny_call (make_map (f := f) I1.kIn M.makes M.init (beq_iff_eq.mp M.fn) (codeAny_mono (F.run _ X.stack _ _ ⟨Value.ref (s1.heap.objs.size + 1) :: us, []⟩ (Value.ref (s1.heap.objs.size + 1) :: us) _ _ (E σ) (hr.make C us [])
    (I2.env0.make C us []) bb r2 hq) fun r s' hq' => ?_))
  cases r with
  | error e => exact hx σ pins _ _ e s' I2 hq'
  | ok fl =>
    cases fl with
    | ret u =>
      obtain ⟨v, H', I3, rv, ev, q3⟩ := I2.after hq'
      subst ev
      exact ⟨rv, ⟨V.ref (s1.heap.objs.size + 1), H', I3, rfl, q3⟩⟩
    | next => exact False.elim hq'
    | brk => exact False.elim hq'
    | cont => exact False.elim hq'
/-- a class without an own __init__ -/
structure Mk0 (K : PySem.W.Frag) (C : Addr) : Prop where
  makes : PySem.W.makesIn K C = true
  init : PySem.W.findIn K (.ref C) "__init__" = some (some (.builtin "object.__init__"))
  kp : PySem.W.keepIn K (.ref C) = true
def tMake0 (C : Addr) : TE := fun σ H Q => ∀ x dx, H x = none → H dx = none → dx ≠ x → Q (.ref x) (upd (upd H dx (.own x)) x (.ins C dx []))
theorem pe_makeN (M : Mk0 X.K C) (hg : Gl X x) (hm : X.mg x = some (.ref C)) (hdb : (x == ("__debug__" : Str)) = false := by decide) : PE X (.Call (.Name x p) [] [] pos) (tMake0 C) := by
  refine ⟨fun pins s σ H Q I h => ?_⟩
  refine wpAny_Call_Name_kw (ld_glob I hg hm ?_ hdb)
  refine PySem.W.callWith_K0 I.kIn M.kp (wpAny_call ?_)
  have I2 := Inv.made (C := C) I
  have z := h (s.heap.objs.size + 1) s.heap.objs.size (I.hok.fresh (Nat.le_succ _)) (I.hok.fresh (Nat.le_refl _)) (Nat.ne_of_lt (Nat.lt_succ_self _))
  have hX := I.kIn
  have X2 := I2.kIn
  obtain ⟨hh, g, d, t, os⟩ := s
  have Y := PySem.W.makes_of (M := model X.prog X.w) hX M.makes
  have hget : ((hh.push PySem.W.emptyDict).push (PySem.W.instObj C hh.objs.size)).get? (hh.objs.size + 1) = some (PySem.W.instObj C hh.objs.size) := by
    have := Heap.get?_push_size (hh.push PySem.W.emptyDict) (o := PySem.W.instObj C hh.objs.size) rfl
    rwa [Heap.size_push] at this
  refine make_map0 hX M.makes M.init (fun self => PySem.W.Looks.of_pure (PySem.W.oi_bind self)) ?_
  have t1 : PySem.W.Looks (model X.prog X.w) ((hh.push PySem.W.emptyDict).push (PySem.W.instObj C hh.objs.size)) (typeOf (.ref (hh.objs.size + 1))) (.ref C) := (PySem.W.Looks.ld hget).andThen .now
  have t2 : PySem.W.Looks (model X.prog X.w) ((hh.push PySem.W.emptyDict).push (PySem.W.instObj C hh.objs.size)) (isInstance (.ref (hh.objs.size + 1)) (.type "object")) true := t1.andThen (Y.top.keeps fun b o e => Heap.get?_push_of_some _ (Heap.get?_push_of_some _ e))
  refine codeAny_call_builtin PySem.W.oi_plain PySem.W.entry_oi (@PySem.W.check_slot (model X.prog X.w) _ _ _ "object.__init__" "object" "__init__" (.ref (hh.objs.size + 1)) [] [] _ PySem.W.oi_kind PySem.W.oi_split t2 (PySem.W.oi_args (.ref (hh.objs.size + 1))) ?_)
  rw [PySem.W.oi_run]
  exact wpAny_pure (And.intro rfl ⟨V.ref (hh.objs.size + 1), _, I2, rfl, z⟩)
end
/-! ### == by an own __eq__ -/
theorem sub_aux : ∀ (l : List String) (C : Addr), (l.map Value.type).contains (Value.ref C) = false
  | [], _ => rfl
  | a :: l, C => by
    rw [List.map_cons, List.contains_cons, sub_aux l C, Bool.or_false]
    rfl
theorem subIn_ty {K : PySem.W.Frag} {T : String} {C : Addr} {l : List String} (h : PySem.fastBuiltinMro T = some (l.map Value.type)) : PySem.W.subIn K (.type T) (.ref C) = some false := by
  show (PySem.fastBuiltinMro T).map (·.contains (.ref C)) = some false
  rw [h]
  show some _ = some _
  congr 1
  induction l with
  | nil => rfl
  | cons a l ih => exact sub_aux (a :: l) C
/-- x == y, x an instance of the class at C whose own __eq__ keeps sp -/
def rOwn (K : PySem.W.Frag) (C : Addr) (sp : Sp) (E : XK) : R2 := fun x y H Q => ∃ (a dx : Addr) (fs : List (Str × V)) (t : Value), x = .ref a ∧ H a = some (.ins C dx fs) ∧ TyX K H y t ∧ PySem.W.notFirst K C t = true ∧ sp [x, y] H (fun v H' => (∃ b, v = .bl b) ∧ Q v H') E
theorem op_own {X : Cx} {CX : CXT} {k : Nat} {f C : Addr} {fd : FuncData} {ps : List Str} {sp : Sp} {E : XK} (F : FnOk X.prog X.w X.K X.mg X.base CX k f fd ps sp) (hr : Room k X.A) (hs : PySem.W.findIn X.K (.ref C) "__eq__" = some (some (.ref f))) (hf : PySem.W.isFn X.K (.ref f) = true) (hb : Binds X.K fd ps [])
    (hx : Passes CX X E) : OpR X (compareOp .Eq) (rOwn X.K C sp E) := by
  intro pins s σ H x y v u Q I rx ry hq
  obtain ⟨a, dx, fs, t, rfl, ha, ty, nf, hsp⟩ := hq
  show wpAny (model X.prog X.w) X.A (richCompare .Eq v u) (EP X pins σ Q) X.xe s
  cases rx
  obtain ⟨mA, J, _⟩ := ins_get I.hok ha
  obtain ⟨od, J, _⟩ := J.look
  obtain ⟨P, Z, pz, _⟩ := kit_of I ry ty
  obtain ⟨m, hF⟩ := I.fr
  refine PySem.W.cmp_K (op := .Eq) (tb := t) (Room.units0 hr) hF I.ok.mod.kin J (Z.ty _ _ I.kIn pz) nf hs hf ?_
  have r2 : Vals [V.ref a, y] [Value.ref a, u] := .cons rfl (.cons ry .nil)
  have hsp' : sp ([V.ref a, y] ++ []) H (fun v H' => (∃ b, v = .bl b) ∧ Q v H') E := hsp
  refine wpAny_mono (run_fn (ds := []) (dvs := []) F hr hb .nil hx I r2 hsp') (fun w s' hw => ?_) fun _ _ z => z
  obtain ⟨z, H', I', rz, ⟨b, rfl⟩, q⟩ := hw
  cases rz
  exact ⟨.bl b, H', I', rfl, q⟩
/-! ### bool of anything small -/
/-- what bool tells -/
def rBool (K : PySem.W.Frag) : List V → Hp → VK → Prop := fun xs H Q => ∃ x, xs = [x] ∧ ((∃ b, x = .bl b ∧ Q (.bl b) H) ∨ (∃ i, x = .int i ∧ Q (.bl (i != 0)) H) ∨ (∃ y : Str, x = .str y ∧ y.length ≤ sizeLine ∧ Q (.bl ((y.length : Int) != 0)) H) ∨ ∃ a zs, x = .ref a ∧ SqL K H a zs ∧ Q (.bl (!zs.isEmpty)) H)
theorem call_boolV {X : Cx} : CallR X (.type "bool") (rBool X.K) := by
  intro pins s σ H xs us Q I r h
  obtain ⟨x, rfl, h⟩ := h
  rcases h with ⟨b, rfl, q⟩ | ⟨i, rfl, q⟩ | ⟨y, rfl, hz, q⟩ | ⟨a, zs, rfl, hq, q⟩
  · exact call_bool1 pins s σ H [.bl b] us Q I r (.inr ⟨b, rfl, q⟩)
  · exact call_bool1 pins s σ H [.int i] us Q I r (.inl ⟨i, rfl, q⟩)
  · obtain ⟨u, rfl, t, rfl⟩ := vals1 r
    have hl := line63
    exact PySem.call_bool_str (by omega) ⟨.bl _, H, I.tok _, rfl, q⟩
  · exact call_boolL pins s σ H [.ref a] us Q I r ⟨a, zs, rfl, hq, q⟩
end L2
/-! zip and enumerate of a list or a tuple each; a for over a list or a tuple -/
namespace L2
open PySem PySem.Spec PyProof.Rows
/-- k: a list (true), a tuple (false) -/
def SqK (K : PySem.W.Frag) (H : Hp) : Bool → Addr → List V → Prop
  | true, a, xs => SqL K H a xs
  | false, a, xs => SqT K H a xs
def IsK (h : Heap) : Bool → Addr → Array Value → Prop
  | true, a, its => h.IsList a its
  | false, a, its => h.IsTuple a its
def ItK (h : Heap) : Bool → Addr → Addr → Nat → Prop
  | true, it, a, i => h.IsListIter it a i
  | false, it, a, i => h.IsTupleIter it a i
def itObj : Bool → Addr → Obj
  | true, l => { cls := .type "list_iterator", data := .fields #[.ref l, .int 0 0] }
  | false, l => { cls := .type "tuple_iterator", data := .fields #[.ref l, .int 0 0] }
section
variable {X : Cx} {pins : List (Addr × Obj)} {σ : St} {H : Hp} {s : Shared}
theorem Inv.sqk (I : Inv X pins σ H s) : ∀ {k : Bool} {a : Addr} {xs : List V}, SqK X.K H k a xs → ∃ its : List Value, Vals xs its ∧ IsK s.heap k a its.toArray ∧ xs.length ≤ sizeLine ∧ a < s.heap.objs.size
  | true, a, xs, h => let ⟨its, r, p, z⟩ := I.list h; ⟨its, r, p.isList, z, p.lt⟩
  | false, a, xs, h => let ⟨its, r, p, z⟩ := I.tuple h; ⟨its, r, p, z, by obtain ⟨o, ho, _⟩ := p; exact Heap.lt_size ho⟩
theorem Inv.sqk_inj (I : Inv X pins σ H s) : ∀ {k : Bool} {a : Addr} {xs ys : List V}, SqK X.K H k a xs → SqK X.K H k a ys → xs = ys
  | true, _, _, _, h, h' => I.list_inj h h'
  | false, _, _, _, h, h' => I.tuple_inj h h'
end
theorem ItK.keep {h h' : Heap} : ∀ {k : Bool} {it a : Addr} {i : Nat}, ItK h k it a i → (∀ o, h.get? it = some o → h'.get? it = some o) → ItK h' k it a i
  | true, _, _, _, x, q => Heap.IsListIter.at x q
  | false, _, _, _, x, q => Heap.IsTupleIter.at x q
theorem ItK.obj {h : Heap} : ∀ {k : Bool} {it a : Addr} {i : Nat}, ItK h k it a i → ∃ o, h.get? it = some o ∧ ∀ v, o.data ≠ .cell v
  | true, _, _, _, ⟨o, e, _, d⟩ => ⟨o, e, fun v q => by rw [d] at q; cases q⟩
  | false, _, _, _, ⟨o, e, _, d⟩ => ⟨o, e, fun v q => by rw [d] at q; cases q⟩
theorem drawsK {prog : Program} {w : World} {A : Around} (hh : A.handled = none) (it l : Addr) (hne : l ≠ it) (items : Array Value) : ∀ k : Bool,
    Draws prog w A it [it, l] items.size (fun i v => items[i]? = some v) (fun i h => ItK h k it l i ∧ IsK h k l items)
  | true => Draws.list hh it l hne items
  | false => Draws.tuple hh it l hne items
theorem beginsK (l : Addr) (items : Array Value) : ∀ k : Bool, Begins (.ref l) (itObj k l) fun h => IsK h k l items
  | true => begins_list l items
  | false => begins_tuple l items
theorem itK0 {h : Heap} {it l : Addr} : ∀ {k : Bool}, h.get? it = some (itObj k l) → ItK h k it l 0
  | true, e => ⟨_, e, rfl, rfl⟩
  | false, e => ⟨_, e, rfl, rfl⟩
/-- the pairs of two lists or tuples -/
def Itp (K : PySem.W.Frag) (k1 k2 : Bool) (a b : Addr) : It :=
  ⟨fun i H => ∃ (xs ys : List V) (x y : V), SqK K H k1 a xs ∧ SqK K H k2 b ys ∧ xs[i]? = some x ∧ ys[i]? = some y,
    fun i H v H' => ∃ T x y, v = .ref T ∧ H T = none ∧ H' = upd H T (.tup [x, y]) ∧ (∀ xs, SqK K H k1 a xs → xs[i]? = some x) ∧ ∀ ys, SqK K H k2 b ys → ys[i]? = some y,
    fun i H => ∃ xs ys : List V, SqK K H k1 a xs ∧ SqK K H k2 b ys ∧ i ≤ xs.length ∧ i ≤ ys.length ∧ (i = xs.length ∨ i = ys.length)⟩
theorem turn_pairs {P : Program} {w : World} {K : PySem.W.Frag} {elts : List Expr} {kk : Nat} {tpos : Pos} {k1 k2 : Bool} {a b N : Addr} (ha : a < N) (hb : b < N) :
    Turn P w K (.Tuple elts kk tpos) (Itp K k1 k2 a b) [N + 4, N + 2, N + 3, N, N + 1] (N + 4)
      (fun i h => IsZip h (N + 4) (N + 2) (N + 3) .none ∧ IsTupOf2 h (N + 2) (.ref N) (.ref (N + 1)) ∧ (∃ x y, IsTupOf2 h (N + 3) x y) ∧ ItK h k1 N a i ∧ ItK h k2 (N + 1) b i) where
  mem := by simp
  obj := fun i h st c hc => by
    obtain ⟨hz, hTI, ⟨x, y, hTO⟩, h1, h2⟩ := st
    have e' : c = N + 4 ∨ c = N + 2 ∨ c = N + 3 ∨ c = N ∨ c = N + 1 := by simpa using hc
    rcases e' with rfl | rfl | rfl | rfl | rfl
    · exact ⟨_, hz, fun v q => nomatch q⟩
    · exact ⟨_, hTI, fun v q => nomatch q⟩
    · exact ⟨_, hTO, fun v q => nomatch q⟩
    · exact h1.obj
    · exact h2.obj
  keep := fun i h h' st k => by
    obtain ⟨hz, hTI, ⟨x, y, hTO⟩, h1, h2⟩ := st
    exact ⟨k _ (by simp) _ hz, k _ (by simp) _ hTI, ⟨x, y, k _ (by simp) _ hTO⟩, h1.keep fun o q => k _ (by simp) o q, h2.keep fun o q => k _ (by simp) o q⟩
  item := by
    intro X hP hw hK hc i pins s σ H E I hf st hg
    subst hP hw hK
    obtain ⟨hz, hTI, ⟨x0, y0, hTO⟩, h1, h2⟩ := st
    obtain ⟨xs, ys, x, y, hqx, hqy, hx, hy⟩ := hg
    obtain ⟨its, rv, p, _, _⟩ := I.sqk hqx
    obtain ⟨its2, rv2, p2, _, _⟩ := I.sqk hqy
    have hzl : N + 4 < s.heap.objs.size := Heap.lt_size hz
    have S : ZipSep2 (N + 4) (N + 2) (N + 3) N (N + 1) [N, a] [N + 1, b] := zip_sep2 (fp1 := [a]) (fp2 := [b]) (fun c hc => by rw [List.mem_singleton.mp hc]; exact ha) (fun c hc => by rw [List.mem_singleton.mp hc]; exact hb)
    have hh : X.A.in1.handled = none := I.ok.hd hc
    have D1 := drawsK (prog := X.prog) (w := X.w) hh N a (Nat.ne_of_lt ha) its.toArray k1
    have D2 := drawsK (prog := X.prog) (w := X.w) hh (N + 1) b (Nat.ne_of_lt (Nat.lt_succ_of_lt hb)) its2.toArray k2
    have l1 : i < its.toArray.size := by
      have := (List.getElem?_eq_some_iff.mp hx).1
      have := rv.length
      simp; omega
    have l2 : i < its2.toArray.size := by
      have := (List.getElem?_eq_some_iff.mp hy).1
      have := rv2.length
      simp; omega
    refine wpAny_pyNext_zipD2_item S D1 D2 hz hTI hTO ⟨h1, p⟩ ⟨h2, p2⟩ l1 l2 fun u u2 h' tk e1 e2 z' TO' st1 st2 hT hsz hk => ?_
    obtain ⟨u', hu', ru⟩ := rv.get hx
    obtain ⟨u2', hu2', ru2⟩ := rv2.get hy
    have eu : u = u' := by
      have q : its[i]? = some u := by simpa using e1
      rw [q] at hu'; exact Option.some.inj hu'
    have eu2 : u2 = u2' := by
      have q : its2[i]? = some u2 := by simpa using e2
      rw [q] at hu2'; exact Option.some.inj hu2'
    subst eu eu2
    refine ⟨_, rfl, wpAny_letOwnedTupleGo_zip (s := { s with heap := h', toks := tk }) z' fun h'' z'' sb => ?_⟩
    have hT2 : h''.get? s.heap.objs.size = some { cls := .type "tuple", data := .seq #[u, u2] } := (sb.2 _ (Nat.ne_of_gt hzl)).trans hT
    have new : ObjOk X.prog X.w (upd H s.heap.objs.size (.tup [x, y])) h'' s.heap.objs.size (.tup [x, y]) :=
      ⟨by show 2 ≤ sizeLine; decide, [u, u2], .cons ru (.cons ru2 .nil), ⟨_, hT2, rfl, _, rfl⟩⟩
    have kk2 : ∀ c o, c ∉ [N + 4, N + 2, N + 3, N, N + 1] → s.heap.get? c = some o → h''.get? c = some o := fun c o hb q => by
      simp only [List.mem_cons, List.not_mem_nil, or_false, not_or] at hb
      exact (sb.2 c hb.1).trans (hk c o hb.1 hb.2.2.1 hb.2.2.2.1 hb.2.2.2.2 q)
    have I1 : Inv X pins σ (upd H s.heap.objs.size (.tup [x, y])) { s with heap := h'', toks := tk } :=
      I.turnedNew (t' := tk) (ch := [N + 4, N + 2, N + 3, N, N + 1]) kk2 hf (Nat.le_refl _) new
    refine ⟨.ref s.heap.objs.size, _, I1, rfl, ⟨_, x, y, rfl, I.hok.fresh (Nat.le_refl _), rfl, fun l hl => by rw [I.sqk_inj hl hqx]; exact hx, fun l hl => by rw [I.sqk_inj hl hqy]; exact hy⟩, ⟨z'', ?_, ⟨u, u2, ?_⟩, ?_, ?_⟩, fun c hcm => ?_⟩
    · exact (sb.2 _ S.TIz).trans (hk _ _ S.TIz S.TITO S.TIi1 S.TIi2 hTI)
    · exact (sb.2 _ S.TOz).trans TO'
    · exact st1.1.keep fun o q => (sb.2 _ S.zi1.symm).trans q
    · exact st2.1.keep fun o q => (sb.2 _ S.zi2.symm).trans q
    · have hlt : c < s.heap.objs.size := by
        have e' : c = N + 4 ∨ c = N + 2 ∨ c = N + 3 ∨ c = N ∨ c = N + 1 := by simpa using hcm
        have q : (N : Nat) + 4 < s.heap.objs.size := hzl
        rcases e' with e' | e' | e' | e' | e' <;> exact Nat.lt_of_le_of_lt (show (c : Nat) ≤ N + 4 by rw [e']; show (_ : Nat) ≤ _; first | exact Nat.le_refl _ | exact Nat.le_add_right _ _ | exact Nat.add_le_add_left (by decide) _) hzl
      rw [upd_ne (Nat.ne_of_lt hlt)]
      exact (hf c hcm).1
  done := by
    intro X hP hw hK hc i pins s σ H E I hf st hg
    subst hP hw hK
    obtain ⟨hz, hTI, ⟨x0, y0, hTO⟩, h1, h2⟩ := st
    obtain ⟨xs, ys, hqx, hqy, hle1, hle2, hend⟩ := hg
    obtain ⟨its, rv, p, _, _⟩ := I.sqk hqx
    obtain ⟨its2, rv2, p2, _, _⟩ := I.sqk hqy
    have l1 := rv.length
    have l2 := rv2.length
    have S : ZipSep2 (N + 4) (N + 2) (N + 3) N (N + 1) [N, a] [N + 1, b] := zip_sep2 (fp1 := [a]) (fp2 := [b]) (fun c hc => by rw [List.mem_singleton.mp hc]; exact ha) (fun c hc => by rw [List.mem_singleton.mp hc]; exact hb)
    have hh : X.A.in1.handled = none := I.ok.hd hc
    have D1 := drawsK (prog := X.prog) (w := X.w) hh N a (Nat.ne_of_lt ha) its.toArray k1
    have D2 := drawsK (prog := X.prog) (w := X.w) hh (N + 1) b (Nat.ne_of_lt (Nat.lt_succ_of_lt hb)) its2.toArray k2
    refine wpAny_pyNext_zipD2_end S D1 D2 hz hTI hTO ⟨h1, p⟩ ⟨h2, p2⟩ (by simp; omega) (by simp; omega) (by simp; omega) fun h' tk hk => ⟨rfl, I.turnedL (t' := tk) (ch := [N + 4, N + 2, N + 3, N, N + 1]) (fun c o hb q => ?_) hf⟩
    simp only [List.mem_cons, List.not_mem_nil, or_false, not_or] at hb
    exact hk c o hb.1 hb.2.2.1 hb.2.2.2.1 hb.2.2.2.2 q
  self := fun A i s Q E st h => wpAny_pyIter_zip st.1 h
def iZipM (K : PySem.W.Frag) (ta : TA) : TI := fun σ H R => ta σ H fun vs H1 => ∃ k1 k2 a b xs ys, vs = [.ref a, .ref b] ∧ SqK K H1 k1 a xs ∧ SqK K H1 k2 b ys ∧ R (Itp K k1 k2 a b) H1
theorem pi_zipM {X : Cx} {e e2 : Expr} {ta : TA} {p pos tpos : Pos} {elts : List Expr} {kk : Nat} (hg : Gl X "zip") (hm : X.mg "zip" = none) (ha : PA X [e, e2] ta)
    (hs : starEach [e, e2] X.env = (false, eval e X.env) :: starEach [e2] X.env := by rfl) (hpl : (backTo pos (starEach [e2] X.env)).any (·.1) = false := by rfl) :
    PI X (.Tuple elts kk tpos) (.Call (.Name "zip" p) [e, e2] [] pos) (iZipM X.K ta) := by
  refine ⟨fun pins s σ H R I h => ?_⟩
  refine Call_ (ld_blt I hg hm PyProof.Rows.boot_zip (PyProof.Rows.callWith_type1 (thn (ha.run pos pins s σ H _ I h) fun us s1 ⟨vs, H1, I1, r1, q1⟩ => ?_) hs hpl))
  obtain ⟨k1, k2, a, b, xs, ys, rfl, hqx, hqy, q⟩ := q1
  cases r1 with
  | cons r rr =>
    cases rr with
    | cons r' rr =>
      cases rr; cases r; cases r'
      obtain ⟨its, rv, p1, _, la⟩ := I1.sqk hqx
      obtain ⟨its2, rv2, p2, _, lb⟩ := I1.sqk hqy
      refine zip_begins2 (beginsK a its.toArray k1) (beginsK b its2.toArray k2) p1 p2 fun h' hz hTI hTO h1 h2 hsz hk => wpAny_pyIter_zip hz ?_
      have I2 : Inv X pins σ H1 { s1 with heap := h' } := I1.kept (t' := s1.toks) hk
      refine ⟨s1.heap.objs.size + 4, [s1.heap.objs.size + 4, s1.heap.objs.size + 2, s1.heap.objs.size + 3, s1.heap.objs.size, s1.heap.objs.size + 1], _, _, H1, rfl, I2, turn_pairs la lb, ⟨hz, hTI, ⟨_, _, hTO⟩, itK0 h1, itK0 h2⟩, fun c hcm => ?_, q⟩
      have hle : s1.heap.objs.size ≤ c := by
        have e' : c = s1.heap.objs.size + 4 ∨ c = s1.heap.objs.size + 2 ∨ c = s1.heap.objs.size + 3 ∨ c = s1.heap.objs.size ∨ c = s1.heap.objs.size + 1 := by simpa using hcm
        rcases e' with rfl | rfl | rfl | rfl | rfl <;> (show (s1.heap.objs.size : Nat) ≤ _; omega)
      exact I1.fpOk hle (I1.hok.fresh hle)
/-- the items with their numbers -/
def Itn (K : PySem.W.Frag) (k : Bool) (a : Addr) : It :=
  ⟨fun i H => ∃ (xs : List V) (x : V), SqK K H k a xs ∧ xs[i]? = some x, fun i H v H' => ∃ T x, v = .ref T ∧ H T = none ∧ H' = upd H T (.tup [.int (i : Nat), x]) ∧ ∀ xs, SqK K H k a xs → xs[i]? = some x, fun i H => ∃ xs : List V, SqK K H k a xs ∧ i = xs.length⟩
theorem turn_numbered {P : Program} {w : World} {K : PySem.W.Frag} {elts : List Expr} {kk : Nat} {tpos : Pos} (k : Bool) (a e it : Addr) (ha : a ≠ it) (hae : a ≠ e) :
    Turn P w K (.Tuple elts kk tpos) (Itn K k a) [e, it] e (fun i h => (∃ old, IsEnum h e it ((i : Nat) : Int) old) ∧ ItK h k it a i ∧ e ≠ it) where
  mem := by simp
  obj := fun i h st b hb => by
    obtain ⟨⟨old, he⟩, h2, _⟩ := st
    have e' : b = e ∨ b = it := by simpa using hb
    rcases e' with z | z
    · rw [z]; exact ⟨_, he, fun v q => nomatch q⟩
    · rw [z]; exact h2.obj
  keep := fun i h h' st q => let ⟨⟨old, he⟩, hi, hne⟩ := st; ⟨⟨old, q e (by simp) _ he⟩, hi.keep fun o z => q it (by simp) o z, hne⟩
  item := by
    intro X hP hw hK hc i pins s σ H E I hf st hg
    subst hP hw hK
    obtain ⟨⟨old, he⟩, hit, hne⟩ := st
    obtain ⟨xs, x, hq, hx⟩ := hg
    obtain ⟨its, rv, p, hz, _⟩ := I.sqk hq
    obtain ⟨u, hu, ru⟩ := rv.get hx
    have hel : e < s.heap.objs.size := Heap.lt_size he
    have hil : it < s.heap.objs.size := by obtain ⟨_, q, _⟩ := hit.obj; exact Heap.lt_size q
    have hh : X.A.in1.handled = none := I.ok.hd hc
    have D := drawsK (prog := X.prog) (w := X.w) hh it a ha its.toArray k
    have l1 : i < its.toArray.size := by
      have := (List.getElem?_eq_some_iff.mp hx).1
      have := rv.length
      simp; omega
    refine wpAny_pyNext_enum_itemD D he ⟨hit, p⟩ l1 hne (by simp [hne, hae.symm]) fun u2 h' tk e1 ho st' hT hsz hk => ?_
    have eu : u2 = u := by
      have q : its[i]? = some u2 := by simpa using e1
      rw [q] at hu; exact Option.some.inj hu
    subst eu
    refine ⟨_, rfl, wpAny_letOwnedTupleGo_enum (s := { s with heap := h', toks := tk + 1 }) ho fun h'' he' sb => ?_⟩
    have hT2 : h''.get? s.heap.objs.size = some { cls := .type "tuple", data := .seq #[.int i tk, u2] } := (sb.2 _ (Nat.ne_of_gt hel)).trans hT
    have new : ObjOk X.prog X.w (upd H s.heap.objs.size (.tup [.int (i : Nat), x])) h'' s.heap.objs.size (.tup [.int (i : Nat), x]) :=
      ⟨by show 2 ≤ sizeLine; decide, [.int i tk, u2], .cons ⟨_, rfl⟩ (.cons ru .nil), ⟨_, hT2, rfl, _, rfl⟩⟩
    have I1 : Inv X pins σ (upd H s.heap.objs.size (.tup [.int (i : Nat), x])) { s with heap := h'', toks := tk + 1 } :=
      I.turnedNew (t' := tk + 1) (ch := [e, it]) (fun b ob hb q => (sb.2 b (fun z => hb (by simp [z]))).trans (hk b ob (fun z => hb (by simp [z])) (fun z => hb (by simp [z])) q)) hf (Nat.le_refl _) new
    refine ⟨.ref s.heap.objs.size, _, I1, rfl, ⟨_, x, rfl, I.hok.fresh (Nat.le_refl _), rfl, fun ys hy => by rw [I.sqk_inj hy hq]; exact hx⟩, ⟨⟨u2, ?_⟩, st'.1.keep fun o q => (sb.2 it (Ne.symm hne)).trans q, hne⟩, fun b hb => ?_⟩
    · have e1 : ((i + 1 : Nat) : Int) = (i : Int) + 1 := by omega
      rw [e1]; exact he'
    · have hb' : b < s.heap.objs.size := by
        have e' : b = e ∨ b = it := by simpa using hb
        rcases e' with z | z <;> (rw [z]; assumption)
      rw [upd_ne (Nat.ne_of_lt hb')]
      exact (hf b hb).1
  done := by
    intro X hP hw hK hc i pins s σ H E I hf st hg
    subst hP hw hK
    obtain ⟨⟨old, he⟩, hit, hne⟩ := st
    obtain ⟨xs, hq, rfl⟩ := hg
    obtain ⟨its, rv, p, hz, _⟩ := I.sqk hq
    obtain ⟨f0, f1, f2, f3, f4, f5⟩ := hf it (by simp)
    have hh : X.A.in1.handled = none := I.ok.hd hc
    have D := drawsK (prog := X.prog) (w := X.w) hh it a ha its.toArray k
    have el : xs.length = its.toArray.size := by rw [rv.length]; simp
    rw [el] at hit he
    exact wpAny_pyNext_enum_endD D he ⟨hit, p⟩ fun h' eb => ⟨rfl, I.turned (t' := s.toks) (fun b o hb q => eb b o hb q) f0 f1 f3 f4 f5⟩
  self := fun A i s Q E st h => let ⟨⟨_, he⟩, _⟩ := st; wpAny_pyIter_enum he h
set_option maxHeartbeats 4000000 in
theorem meets_enum1 {v : Value} {o : Obj} {H : Heap → Prop} (B : Begins v o H) :
    Meets (Builtin.«enumerate.__new__» ⟨[.type "enumerate", v], []⟩) (fun _ R s => H s.heap ∧
      R (.ok (.ret (.ref (s.heap.push o).objs.size))) { s with heap := (s.heap.push o).push { cls := .type "enumerate", data := .fields #[.none, .bool false, .ref s.heap.objs.size, rawInt 0, .none, .none] } }) :=
  .of_wp fun prog w A R s h => by
    obtain ⟨hp, g, d, tk, os⟩ := s
    obtain ⟨h1, h⟩ := h
    have hsub := sub_enumerate
    have q1 : ∀ {A' : Around} {E : Value → Shared → Prop} {Q : Value → Shared → Prop}, Q (.ref hp.objs.size) ⟨hp.push o, g, d, tk, os⟩ → wpAny (model prog w) A' (pyIter v) Q E ⟨hp, g, d, tk, os⟩ := fun q => B.iter prog w _ _ ⟨hp, g, d, tk, os⟩ _ h1 q
    wp_walk using q1
    refine wpAny_stack_any fun st => wpAny_pure ?_
    split
    · rename_i c _ _ _ _ _
      cases (c == Value.type "enumerate") <;> (wp_walk using q1; exact ⟨_, rfl, h⟩)
    · wp_walk using q1
      exact ⟨_, rfl, h⟩
theorem enum_begins1 {prog : Program} {w : World} {A : Around} {E : Value → Shared → Prop} {s : Shared} {v : Value} {o : Obj} {H : Heap → Prop} {Q : Value → Shared → Prop} (B : Begins v o H) (h1 : H s.heap)
    (h : ∀ h', IsEnum h' (s.heap.objs.size + 1) s.heap.objs.size 0 .none → h'.get? s.heap.objs.size = some o → (∀ b o, s.heap.get? b = some o → h'.get? b = some o) → Q (.ref (s.heap.objs.size + 1)) { s with heap := h' }) :
    wpAny (model prog w) A (call (.type "enumerate") [v]) Q E s := by
  refine callType_new F.called_enumerate (by decide) (F.typeCall_enumerate_1 _) (F.newCall_enumerate_1 _) (fun obj => F.args_object_init_2 obj _) F.entry_enumerate_new (meets_enum1 B) ⟨h1, ?_⟩
  have hz : (s.heap.push o).objs.size = s.heap.objs.size + 1 := Heap.size_push ..
  show _ ∧ _
  rw [hz]
  have he := Heap.get?_push_size (s.heap.push o) (o := { cls := .type "enumerate", data := .fields #[.none, .bool false, .ref s.heap.objs.size, rawInt 0, .none, .none] }) rfl
  rw [hz] at he
  exact ⟨⟨_, he, rfl⟩, h _ he (Heap.get?_push_of_some _ (Heap.get?_push_size _ B.free)) fun b o x => Heap.get?_push_of_some _ (Heap.get?_push_of_some _ x)⟩
def iEnumM (K : PySem.W.Frag) (ta : TA) : TI := fun σ H R => ta σ H fun vs H1 => ∃ k a xs, vs = [.ref a] ∧ SqK K H1 k a xs ∧ R (Itn K k a) H1
theorem pi_enumM {X : Cx} {e : Expr} {ta : TA} {p pos tpos : Pos} {elts : List Expr} {kk : Nat} (hg : Gl X "enumerate") (hm : X.mg "enumerate" = none) (ha : PA X [e] ta) (hs : starEach [e] X.env = [(false, eval e X.env)] := by rfl) :
    PI X (.Tuple elts kk tpos) (.Call (.Name "enumerate" p) [e] [] pos) (iEnumM X.K ta) := by
  refine ⟨fun pins s σ H R I h => ?_⟩
  refine Call_ (ld_blt I hg hm boot_enumerate (PyProof.Rows.callWith_type1 (thn (ha.run pos pins s σ H _ I h) fun us s1 ⟨vs, H1, I1, r1, q1⟩ => ?_) hs rfl))
  obtain ⟨k, a, xs, rfl, hq, q⟩ := q1
  cases r1 with
  | cons r rr =>
    cases rr; cases r
    obtain ⟨its, rv, p', hz, la⟩ := I1.sqk hq
    refine enum_begins1 (beginsK a its.toArray k) p' fun h' he h1 hk => wpAny_pyIter_enum he ?_
    have I2 : Inv X pins σ H1 { s1 with heap := h' } := I1.kept (t' := s1.toks) hk
    refine ⟨s1.heap.objs.size + 1, [s1.heap.objs.size + 1, s1.heap.objs.size], _, _, H1, rfl, I2, turn_numbered k a (s1.heap.objs.size + 1) s1.heap.objs.size (Nat.ne_of_lt la) (Nat.ne_of_lt (Nat.lt_succ_of_lt la)), ⟨⟨.none, he⟩, itK0 h1, Nat.succ_ne_self _⟩, fun b hb => ?_, q⟩
    have e' : b = s1.heap.objs.size + 1 ∨ b = s1.heap.objs.size := by simpa using hb
    have hle : s1.heap.objs.size ≤ b := by rcases e' with z | z <;> (rw [z]; first | exact Nat.le_add_right _ _ | exact Nat.le_refl _)
    exact I1.fpOk hle (I1.hok.fresh hle)
/-- a plain walk over a list or a tuple -/
def iAny (K : PySem.W.Frag) (te : TE) : TI := fun σ H R => te σ H fun x H1 => ∃ a, x = .ref a ∧ ((∃ xs, SqL K H1 a xs ∧ R (Itl K a) H1) ∨ ∃ xs, SqT K H1 a xs ∧ R (Itt K a) H1)
theorem pi_any {X : Cx} {tg e : Expr} {te : TE} (he : PE X e te) : PI X tg e (iAny X.K te) := by
  refine ⟨fun pins s σ H R I h => ?_⟩
  refine thn (he.run pins s σ H _ I h) fun v s1 ⟨x, H1, I1, r1, a, ex, q1⟩ => ?_
  subst ex
  cases r1
  have fp : ∀ b ∈ [s1.heap.objs.size], FpOk X pins H1 b := fun b hb => by
    rw [List.mem_singleton.mp hb]
    exact I1.fpOk (Nat.le_refl _) (I1.hok.fresh (Nat.le_refl _))
  rcases q1 with ⟨xs, hq, q⟩ | ⟨xs, hq, q⟩
  · obtain ⟨its, rv, p, hz⟩ := I1.list hq
    exact wpAny_pyIter_list p.isList ⟨s1.heap.objs.size, [s1.heap.objs.size], _, _, H1, rfl, I1.kept (t' := s1.toks) fun b o e => Heap.get?_push_of_some _ e, turn_list a _, ⟨_, Heap.get?_push_size _ rfl, rfl, rfl⟩, fp, q⟩
  · obtain ⟨its, rv, p, hz⟩ := I1.tuple hq
    exact wpAny_pyIter_tuple (show s1.heap.IsTuple a its.toArray from p) ⟨s1.heap.objs.size, [s1.heap.objs.size], _, _, H1, rfl, I1.kept (t' := s1.toks) fun b o e => Heap.get?_push_of_some _ e, turn_tuple a _, ⟨_, Heap.get?_push_size _ rfl, rfl, rfl⟩, fp, q⟩
/-- a loop over pairs -/
theorem for_pairs {K : PySem.W.Frag} {k1 k2 : Bool} {a b : Addr} {xs ys : List V} {g : TG} {tb : TS} {D : Ends} {σ : St} {H : Hp} (hl : xs.length = ys.length) (Pv : Nat → St → Hp → Prop) (h0 : Pv 0 σ H) (hq : ∀ i σ H, Pv i σ H → SqK K H k1 a xs ∧ SqK K H k2 b ys)
    (hs : ∀ (i : Nat) (x y : V) (T : Addr) (σ : St) (H : Hp), xs[i]? = some x → ys[i]? = some y → Pv i σ H → H T = none → g (.ref T) σ (upd H T (.tup [x, y])) fun σ2 H2 => tb { D with nx := Pv (i + 1), ct := Pv (i + 1), bk := D.nx } σ2 H2) (hd : ∀ σ H, Pv xs.length σ H → D.nx σ H) :
    ∃ W : Nat → Nat → St → Hp → Prop, (∃ m, W 0 m σ H) ∧ ∀ i m σ H, W i m σ H →
      ((Itp K k1 k2 a b).stop i H ∧ D.nx σ H) ∨ ((Itp K k1 k2 a b).go i H ∧ ∃ N : St → Hp → Prop, (∀ σ' H', N σ' H' → ∃ m', m' < m ∧ W (i + 1) m' σ' H') ∧ ∀ v H', (Itp K k1 k2 a b).yld i H v H' → g v σ H' fun σ2 H2 => tb { D with nx := N, ct := N, bk := D.nx } σ2 H2) := by
  refine ⟨fun i m σ H => m = xs.length - i ∧ i ≤ xs.length ∧ Pv i σ H, ⟨xs.length, rfl, Nat.zero_le _, h0⟩, ?_⟩
  rintro i m σ H ⟨rfl, hi, p⟩
  have hq' := hq i σ H p
  by_cases hlt : i < xs.length
  · have hx : xs[i]? = some xs[i] := List.getElem?_eq_getElem hlt
    have hy : ys[i]? = some (ys[i]'(by omega)) := List.getElem?_eq_getElem (by omega)
    refine .inr ⟨⟨xs, ys, _, _, hq'.1, hq'.2, hx, hy⟩, Pv (i + 1), fun σ' H' p' => ⟨xs.length - (i + 1), by omega, rfl, hlt, p'⟩, fun v H' y => ?_⟩
    obtain ⟨T, x', y', rfl, hT, rfl, f1, f2⟩ := y
    exact hs i x' y' T σ H (f1 xs hq'.1) (f2 ys hq'.2) p hT
  · have e : i = xs.length := by omega
    subst e
    exact .inl ⟨⟨xs, ys, hq'.1, hq'.2, Nat.le_refl _, Nat.le_of_eq hl, .inl rfl⟩, hd σ H p⟩
/-- a loop over numbered items -/
theorem for_numbered {K : PySem.W.Frag} {k : Bool} {a : Addr} {xs : List V} {g : TG} {tb : TS} {D : Ends} {σ : St} {H : Hp} (Pv : Nat → St → Hp → Prop) (h0 : Pv 0 σ H) (hq : ∀ i σ H, Pv i σ H → SqK K H k a xs)
    (hs : ∀ (i : Nat) (x : V) (T : Addr) (σ : St) (H : Hp), xs[i]? = some x → Pv i σ H → H T = none → g (.ref T) σ (upd H T (.tup [.int (i : Nat), x])) fun σ2 H2 => tb { D with nx := Pv (i + 1), ct := Pv (i + 1), bk := D.nx } σ2 H2) (hd : ∀ σ H, Pv xs.length σ H → D.nx σ H) :
    ∃ W : Nat → Nat → St → Hp → Prop, (∃ m, W 0 m σ H) ∧ ∀ i m σ H, W i m σ H →
      ((Itn K k a).stop i H ∧ D.nx σ H) ∨ ((Itn K k a).go i H ∧ ∃ N : St → Hp → Prop, (∀ σ' H', N σ' H' → ∃ m', m' < m ∧ W (i + 1) m' σ' H') ∧ ∀ v H', (Itn K k a).yld i H v H' → g v σ H' fun σ2 H2 => tb { D with nx := N, ct := N, bk := D.nx } σ2 H2) := by
  refine ⟨fun i m σ H => m = xs.length - i ∧ i ≤ xs.length ∧ Pv i σ H, ⟨xs.length, rfl, Nat.zero_le _, h0⟩, ?_⟩
  rintro i m σ H ⟨rfl, hi, p⟩
  have hq' := hq i σ H p
  by_cases hlt : i < xs.length
  · refine .inr ⟨⟨xs, xs[i], hq', List.getElem?_eq_getElem hlt⟩, Pv (i + 1), fun σ' H' p' => ⟨xs.length - (i + 1), by omega, rfl, hlt, p'⟩, fun v H' y => ?_⟩
    obtain ⟨T, x', rfl, hT, rfl, f1⟩ := y
    exact hs i x' T σ H (f1 xs hq') p hT
  · have e : i = xs.length := by omega
    subst e
    exact .inl ⟨⟨xs, hq', rfl⟩, hd σ H p⟩
end L2
/-! several except clauses, each with a name or without one; a new instance made within a try -/
namespace L2
open PySem PySem.Spec PyProof.Rows
abbrev Clause := Value × Option Nat × (Addr → Value → Option Addr → TS)
/-- the ends of a suite whose name (slot i) goes behind it -/
def gone (D : Ends) (i : Nat) : Ends := { nx := fun σ' H' => D.nx (σ'.set i none) H', rt := D.rt, bk := fun σ' H' => D.bk (σ'.set i none) H', ct := fun σ' H' => D.ct (σ'.set i none) H' }
def wNamed (K : PySem.W.Frag) (Wout : WX) (D : Ends) : List Clause → WX
  | [] => Wout
  | (c, none, ts) :: r => fun cls d σ H => ∃ b, PySem.W.exmOne K cls c = some b ∧ (b = true → ∀ a, H a = Option.none → ts a cls d D σ H) ∧ (b = false → wNamed K Wout D r cls d σ H)
  | (c, some i, ts) :: r => fun cls d σ H => ∃ b, PySem.W.exmOne K cls c = some b ∧ (b = true → ∀ a, H a = Option.none → ts a cls d (gone D i) (σ.set i (some (.ref a))) H) ∧ (b = false → wNamed K Wout D r cls d σ H)
inductive HdsA (X : Cx) : List ExceptHandler → List Clause → Prop
  | nil : HdsA X [] []
  | bare {x : Str} {c : Value} {ts : Addr → Value → Option Addr → TS} {st0 : Stmt} {sts : List Stmt} {pa pb : Pos} {hr : List ExceptHandler} {l : List Clause} (hc : Names X x c)
      (body : ∀ (a : Addr) (oe : Obj) (cls : Value) (d : Option Addr) (pn : List (Addr × Obj)), Zc cls d oe → (∃ vs, oe.data = .fields vs) → PSs (X.suite a ((a, oe) :: pn)) (st0 :: sts) (ts a cls d)) (r : HdsA X hr l) :
      HdsA X (.ExceptHandler (some (.Name x pa)) none (st0 :: sts) pb :: hr) ((c, none, ts) :: l)
  | named {i : Nat} {x n : Str} {c : Value} {ts : Addr → Value → Option Addr → TS} {st0 : Stmt} {sts : List Stmt} {pa pb : Pos} {hr : List ExceptHandler} {l : List Clause} (hN : X.N.Nodup) (hi : X.N[i]? = some n) (hln : X.env.kindOf n = some .local) (hc : Names X x c)
      (body : ∀ (a : Addr) (oe : Obj) (cls : Value) (d : Option Addr) (pn : List (Addr × Obj)), Zc cls d oe → (∃ vs, oe.data = .fields vs) → PSs (X.suite a ((a, oe) :: pn)) (st0 :: sts) (ts a cls d)) (r : HdsA X hr l) :
      HdsA X (.ExceptHandler (some (.Name x pa)) (some n) (st0 :: sts) pb :: hr) ((c, some i, ts) :: l)
section
variable {X : Cx} {body : List Stmt} {h0 : ExceptHandler} {hr : List ExceptHandler} {l : List Clause} {pos : Pos} {tb : WX → TS} {Wout : WX}
theorem ps_try_named (hs : X.stack = X.env :: X.outer) (hf : X.env.frame = some X.env.locals) (tk : Takes X Wout)
    (hb : ∀ (W : WX) (pn : List (Addr × Obj)) (xe : Value → Shared → Prop), Takes (X.tr pn xe) W → PassesOwn (model X.prog X.w) X.A X.env xe → PSs (X.tr pn xe) body (tb W))
    (hh : HdsA X (h0 :: hr) l) : PS X (.Try body (h0 :: hr) [] [] pos) (fun D σ H => tb (wNamed X.K Wout D l) D σ H) := by
  refine ⟨fun pins s σ H D I h => ?_⟩
  have ok := I.ok; have hfr : X.A.frames = some (X.env :: X.outer) := by rw [ok.frames, hs]
  refine wpAny_Try_except ?_
  let XE' : Value → Shared → Prop := fun e s1 => wpAny (model X.prog X.w) X.A (noteFrame e X.env) (fun _ s2 => wpAny (model X.prog X.w) X.A (setFlight e none) (fun _ s3 => wpAny (model X.prog X.w) X.A (handleBy e X.env (h0 :: hr)) (SP X pins D) X.xe s3) X.xe s2) X.xe s1
  refine wpAny_mono ((hb (wNamed X.K Wout D l) (X.pn ++ pins) XE' (fun u s' xx => ?_) PassesOwn.looking).run [] s σ H D (I.toTry _) h) (fun f s1 hsp => ?_) (fun e s1 he => he)
  · obtain ⟨a, B, sI, pins', σ', H', cls, d, rfl, J', nb, up, sky, na, os, ag, w⟩ := xx
    have J : Inv X pins σ' H' sI := J'.ofTry ok; have sky' : Sky B (X.env :: X.outer) a (Zc cls d) X.env.locals s'.heap := by rw [← hs]; exact sky
    show wpAny (model X.prog X.w) X.A (noteFrame (.ref a) X.env) _ _ _
    refine Sky.land Zc.steady hfr hf sky' fun h3 fl3 up3 => ?_
    have J3 : Inv X pins σ' H' { s' with heap := h3 } := J.landed nb fl3.1 (up.trans up3) os ag
    obtain ⟨oe3, vs3, he3, hz3, hd3⟩ := fl3.there
    have nfr : a ∉ frs (X.env :: X.outer) := fun hm => by
      obtain ⟨_, o', e', hnf⟩ := fl3.2.2.1.mem hm; rw [he3] at e'; cases e'; exact hnf _ hd3
    have nL : a ≠ X.env.locals := fun z => nfr (List.mem_filterMap.mpr ⟨X.env, List.mem_cons_self, by rw [hf, z]⟩); have nF : a ∉ X.fs := fun hm => by
      obtain ⟨e, he, q⟩ := List.mem_filterMap.mp hm; exact nfr (List.mem_filterMap.mpr ⟨e, List.mem_cons_of_mem _ he, q⟩)
    have S3 := J3.suite he3 hd3 na nL nF
    have LT : PySem.W.Looks (model X.prog X.w) h3 (typeOf (.ref a)) cls := fun A Q E s k q => wpAny_typeOf_ref (k _ _ he3) (by rw [hz3.1]; exact q)
    have go : ∀ {hr' : List ExceptHandler} {l' : List Clause}, HdsA X hr' l' → wNamed X.K Wout D l' cls d σ' H' → wpAny (model X.prog X.w) X.A (handleBy (.ref a) X.env hr') (SP X pins D) X.xe { s' with heap := h3 } := by
      intro hr' l' hk; induction hk with
      | nil =>
        intro w
        refine wpAny_handleBy_nil ?_
        obtain ⟨k1, k2, k3, oe, vs, T, oT, ts', he, hz, hd, h1, hr⟩ := id fl3; unfold PySem.passOn
        refine wpAny_bind (wpAny_field he hd h1 ?_)
        rw [if_neg (show ¬ ((Value.ref T == Value.none) = true) from by simp)]
        have fin : wpAny (model X.prog X.w) X.A (setFlight (.ref a) X.env.frame) (fun _ s4 => wpAny (model X.prog X.w) X.A (throw (.ref a) : Sem Flow) (SP X pins D) X.xe s4) X.xe { s' with heap := h3 } := by
          rw [hf]; refine HandSPX.setFlight_upZ fl3 fun h4 hh4 up4 => wpAny_throw (tk _ _ ⟨a, B, sI, pins, σ', H', cls, d, rfl, J, nb, (up.trans up3).trans up4, .inr (.inr (by rw [hs]; exact hh4)), na, os, ag, w⟩)
        first | exact wpAny_bind (wpAny_pure (wpAny_bind fin)) | exact wpAny_bind fin
      | @bare x c ts st0 sts pa pb hr2 l2 hc bd r ih =>
        intro w
        obtain ⟨b, hb1, hyes, hno⟩ := w; refine wpAny_handleBy_cons (codeAny_handlers_test ?_) (by intro q; cases q)
        have LM := PySem.W.exm_one (M := model X.prog X.w) (J3.kIn) LT hb1
        have test : ∀ {Q E : Value → Shared → Prop}, Q c { s' with heap := h3 } → wpAny (model X.prog X.w) (X.A.mark (some (.ref a))) (eval (.Name x pa) X.env) Q E { s' with heap := h3 } := fun {Q E} q => by
          obtain ⟨hg, hdbg, hm | ⟨hm, hv, hnn⟩⟩ := hc; · exact ld_glob (X := X.suite a ((a, oe3) :: (X.pn ++ pins))) S3 hg hm q hdbg
          · exact ld_blt (X := X.suite a ((a, oe3) :: (X.pn ++ pins))) S3 hg hm hv q hnn hdbg
        refine test (LM.here ?_); cases b with
        | true =>
          refine codeAny_handlers_suite (HandSPX.lands_againZ fl3 fun h4 fl4 up4 => ?_)
          have J4 : Inv X pins σ' H' { s' with heap := h4 } := J.landed nb fl4.1 ((up.trans up3).trans up4) os ag; obtain ⟨oe4, vs4, he4, hz4, hd4⟩ := fl4.there
          refine wpAny_mono ((bd a oe4 cls d (X.pn ++ pins) hz4 ⟨_, hd4⟩).run [] _ _ H' _ (J4.suite he4 hd4 na nL nF) (hyes rfl a na)) (fun f s6 hsp => ?_) (fun _ _ z => False.elim z)
          cases f with
          | ret u => (obtain ⟨v6, σ6, H6, S6, r6, q6⟩ := hsp); exact ⟨_, _, _, S6.unsuite ok, r6, q6⟩
          | _ => (obtain ⟨σ6, H6, S6, q6⟩ := hsp); exact ⟨_, _, S6.unsuite ok, q6⟩
        | false => (show wpAny _ X.A (handleBy (.ref a) X.env hr2) _ _ _); exact ih (hno rfl)
      | @named i x n c ts st0 sts pa pb hr2 l2 hN hi hln hc bd r ih =>
        intro w
        obtain ⟨b, hb1, hyes, hno⟩ := w; refine wpAny_handleBy_cons (codeAny_handlers_test ?_) (by intro q; cases q)
        have LM := PySem.W.exm_one (M := model X.prog X.w) (J3.kIn) LT hb1
        have test : ∀ {Q E : Value → Shared → Prop}, Q c { s' with heap := h3 } → wpAny (model X.prog X.w) (X.A.mark (some (.ref a))) (eval (.Name x pa) X.env) Q E { s' with heap := h3 } := fun {Q E} q => by
          obtain ⟨hg, hdbg, hm | ⟨hm, hv, hnn⟩⟩ := hc; · exact ld_glob (X := X.suite a ((a, oe3) :: (X.pn ++ pins))) S3 hg hm q hdbg
          · exact ld_blt (X := X.suite a ((a, oe3) :: (X.pn ++ pins))) S3 hg hm hv q hnn hdbg
        refine test (LM.here ?_); cases b with
        | true =>
          refine codeAny_handlers_suite_as (HandSPX.lands_againZ fl3 fun h4 fl4 up4 => ?_)
          have J4 : Inv X pins σ' H' { s' with heap := h4 } := J.landed nb fl4.1 ((up.trans up3).trans up4) os ag; obtain ⟨oe4, vs4, he4, hz4, hd4⟩ := fl4.there
          have hloc : Loc X.env.scope n := .inl hln
          refine store_ok (X := X.suite a ((a, oe4) :: (X.pn ++ pins))) (v := .ref a) (J4.suite he4 hd4 na nL nF) hN hi hloc rfl (fun s5 S5 => ?_) (.inr hln)
          refine wpAny_mono ((bd a oe4 cls d (X.pn ++ pins) hz4 ⟨_, hd4⟩).run [] s5 _ H' _ S5 (hyes rfl a na)) (fun f s6 hsp => ?_) (fun _ _ z => False.elim z)
          cases f with
          | ret u => (obtain ⟨v6, σ6, H6, S6, r6, q6⟩ := hsp); exact gone_ok (S6.unsuite ok) hN hi hln fun s7 J7 => ⟨_, _, _, J7, r6, q6⟩
          | _ => (obtain ⟨σ6, H6, S6, q6⟩ := hsp); exact gone_ok (S6.unsuite ok) hN hi hln fun s7 J7 => ⟨_, _, J7, q6⟩
        | false => (show wpAny _ X.A (handleBy (.ref a) X.env hr2) _ _ _); exact ih (hno rfl)
    exact go hh w
  · cases f with
    | ret u => (obtain ⟨v, σ', H', J', r, q⟩ := hsp); exact ⟨v, σ', H', J'.ofTry ok, r, q⟩
    | next => (obtain ⟨σ', H', J', q⟩ := hsp); exact wpAny_execs_nil ⟨σ', H', J'.ofTry ok, q⟩
    | brk => (obtain ⟨σ', H', J', q⟩ := hsp); exact ⟨σ', H', J'.ofTry ok, q⟩
    | cont => (obtain ⟨σ', H', J', q⟩ := hsp); exact ⟨σ', H', J'.ofTry ok, q⟩
end
end L2
/-! a reading, step by step -/
namespace L2
open PySem PySem.Spec PyProof.Rows
section
variable {σ : St} {H : Hp} {Q : VK} {D : Ends} {ta tb te tc : TE} {t u : TS} {r : R2} {v x y : V} {i j : Int} {n : Nat} {K : PySem.W.Frag}
theorem r_var (h : σ[n]? = some (some v)) (q : Q v H) : tVar n σ H Q := ⟨v, h, q⟩
theorem r_C (q : Q v H) : tC v σ H Q := q
theorem r_op (q : ta σ H (fun x H1 => tb σ H1 fun y H2 => r x y H2 Q)) : tOp r ta tb σ H Q := q
theorem r_un {f : V → Hp → VK → Prop} (q : ta σ H (fun x H1 => f x H1 Q)) : tUn f ta σ H Q := q
theorem r_rU {g : Int → V} (q : Q (g i) H) : rU g (.int i) H Q := ⟨i, rfl, q⟩
theorem r_I0 {g : Int → Int → V} (q : Q (g i j) H) : rI0 g (.int i) (.int j) H Q := ⟨i, j, rfl, rfl, q⟩
theorem r_I {C : Int → Int → Prop} {g : Int → Int → V} (c : C i j) (q : Q (g i j) H) : rI C g (.int i) (.int j) H Q := ⟨i, j, rfl, rfl, c, q⟩
theorem r_eq (c : scal x y = true) (q : Q (.bl (decide (x = y))) H) : rEq x y H Q := ⟨c, q⟩
theorem r_ne (c : scal x y = true) (q : Q (.bl (!decide (x = y))) H) : rNe x y H Q := ⟨c, q⟩
theorem r_cons {tr : TA} {QA : List V → Hp → Prop} (q : ta σ H (fun x H1 => tr σ H1 fun xs H2 => QA (x :: xs) H2)) : tCons ta tr σ H QA := q
theorem r_nil {QA : List V → Hp → Prop} (q : QA [] H) : tNil σ H QA := q
theorem r_CB {f : List V → Hp → VK → Prop} {tt : TA} (q : tt σ H (fun vs H1 => f vs H1 Q)) : tCB f tt σ H Q := q
theorem r_call {sp : Sp} {dvs : List V} {E : XK} {tt : TA} (q : tt σ H (fun vs H1 => sp (vs ++ dvs) H1 Q E)) : tCall sp dvs E tt σ H Q := q
theorem r_callS {sp : Sp} {E : St → XK} {tt : TA} (q : tt σ H (fun vs H1 => sp vs H1 Q (E σ))) : tCallS sp E tt σ H Q := q
theorem r_seq (q : t { D with nx := u D } σ H) : tSeq t u D σ H := q
theorem r_asg {g : TG} (q : te σ H (fun x H1 => g x σ H1 D.nx)) : tAsg te g D σ H := q
theorem r_gname {R : St → Hp → Prop} (q : R (σ.set n (some v)) H) : gName n v σ H R := q
theorem r_ifS {c : TT} (q : c σ H (fun b H1 => if b = true then t D σ H1 else u D σ H1)) : tIfS c t u D σ H := q
theorem r_ret (q : te σ H D.rt) : tRet te D σ H := q
theorem r_retN (q : D.rt .non H) : tRetN D σ H := q
theorem r_drop (q : te σ H (fun _ H1 => D.nx σ H1)) : tDrop te D σ H := q
theorem r_next (q : D.nx σ H) : tNext D σ H := q
theorem r_break (q : D.bk σ H) : tBreak D σ H := q
theorem r_cont (q : D.ct σ H) : tCont D σ H := q
theorem r_test {R : Bool → Hp → Prop} (q : te σ H (fun x H' => ∃ k, x = .bl k ∧ R k H')) : tTest te σ H R := q
theorem r_tB {R : Bool → Hp → Prop} (q : te σ H (fun x H' => ∃ k, x = .bl k ∧ R k H')) : tB te σ H R := q
theorem r_bl {R : Bool → Prop} {b : Bool} (q : R b) : ∃ k, V.bl b = .bl k ∧ R k := ⟨b, rfl, q⟩
theorem r_and {c d : TT} {R : Bool → Hp → Prop} (q : c σ H (fun b H1 => if b = true then d σ H1 R else R false H1)) : tAnd c d σ H R := q
theorem r_or {c d : TT} {R : Bool → Hp → Prop} (q : c σ H (fun b H1 => if b = true then R true H1 else d σ H1 R)) : tOr c d σ H R := q
theorem r_not {c : TT} {R : Bool → Hp → Prop} (q : c σ H (fun b H1 => R (!b) H1)) : tNot c σ H R := q
theorem r_andV (q : ta σ H (fun x H1 => ∃ c, x = .bl c ∧ if c = true then tb σ H1 Q else Q (.bl false) H1)) : tAndV ta tb σ H Q := q
theorem r_orV (q : ta σ H (fun x H1 => ∃ c, x = .bl c ∧ if c = true then Q (.bl true) H1 else tb σ H1 Q)) : tOrV ta tb σ H Q := q
theorem r_notV (q : ta σ H (fun x H1 => ∃ c, x = .bl c ∧ Q (.bl (!c)) H1)) : tNotV ta σ H Q := q
theorem r_bl1 {b : Bool} {A B : Prop} (q : if b = true then A else B) : ∃ c, V.bl b = .bl c ∧ if c = true then A else B := ⟨b, rfl, q⟩
theorem r_ifE {c : TT} (q : c σ H (fun b H1 => if b = true then ta σ H1 Q else tb σ H1 Q)) : tIf c ta tb σ H Q := q
theorem r_ite {c : Bool} {A B : Prop} (h1 : c = true → A) (h2 : c = false → B) : if c = true then A else B := by
  cases c with
  | true => rw [if_pos rfl]; exact h1 rfl
  | false => rw [if_neg Bool.false_ne_true]; exact h2 rfl
theorem r_iT {c : Bool} {A B : Prop} (hc : c = true) (h : A) : if c = true then A else B := by rw [if_pos hc]; exact h
theorem r_iF {c : Bool} {A B : Prop} (hc : c = false) (h : B) : if c = true then A else B := by rw [hc, if_neg Bool.false_ne_true]; exact h
theorem r_fld {C a dx : Addr} {fs : List (Str × V)} {f : Str} (e : H a = some (.ins C dx fs)) (c : Cls K C) (no : NoAttr K C f) {R : V → Prop} (l : fs.lookup f = some v) (q : R v) : ∃ a' C' dx' fs' v', V.ref a = .ref a' ∧ H a' = some (.ins C' dx' fs') ∧ Cls K C' ∧ NoAttr K C' f ∧ fs'.lookup f = some v' ∧ R v' := ⟨a, C, dx, fs, v, rfl, e, c, no, l, q⟩
theorem r_tFld {f : Str} (q : ta σ H fun x H1 => ∃ a C dx fs v, x = .ref a ∧ H1 a = some (.ins C dx fs) ∧ Cls K C ∧ NoAttr K C f ∧ fs.lookup f = some v ∧ Q v H1) : tFld K ta f σ H Q := q
theorem r_lst {tt : TA} (q : tt σ H (fun xs H1 => xs.length ≤ sizeLine ∧ ∀ p, H1 p = none → Q (.ref p) (upd H1 p (.lst xs)))) : tLst tt σ H Q := q
theorem r_tup {tt : TA} (q : tt σ H (fun xs H1 => xs.length ≤ sizeLine ∧ ∀ p, H1 p = none → Q (.ref p) (upd H1 p (.tup xs)))) : tTup tt σ H Q := q
theorem r_for {wi : TI} {g : TG} {b : TS} (q : wi σ H fun J H1 => ∃ W : Nat → Nat → St → Hp → Prop, (∃ m, W 0 m σ H1) ∧ ∀ i m σ H, W i m σ H →
    (J.stop i H ∧ D.nx σ H) ∨ (J.go i H ∧ ∃ N : St → Hp → Prop, (∀ σ' H', N σ' H' → ∃ m', m' < m ∧ W (i + 1) m' σ' H') ∧ ∀ x H', J.yld i H x H' → g x σ H' fun σ2 H2 => b { D with nx := N, ct := N, bk := D.nx } σ2 H2)) : tFor wi g b D σ H := q
theorem r_rng1 {tt : TA} {R : It → Hp → Prop} (q : tt σ H fun vs H1 => ∃ j : Int, vs = [.int j] ∧ -(2 ^ 62) ≤ j ∧ j < 2 ^ 62 ∧ R (Itr 0 j.toNat) H1) : iRng1 tt σ H R := q
theorem r_int1 {R : Int → Prop} {S : Prop} (q : R i) : (∃ i', [V.int i] = [.int i'] ∧ R i') ∨ S := .inl ⟨i, rfl, q⟩
theorem r_lenL {a : Addr} {xs : List V} {R : Addr → List V → Prop} (h : SqL K H a xs) (q : R a xs) : ∃ p ys, [V.ref a] = [.ref p] ∧ (SqL K H p ys ∨ SqT K H p ys) ∧ R p ys := ⟨a, xs, rfl, .inl h, q⟩
theorem r_lenT {a : Addr} {xs : List V} {R : Addr → List V → Prop} (h : SqT K H a xs) (q : R a xs) : ∃ p ys, [V.ref a] = [.ref p] ∧ (SqL K H p ys ∨ SqT K H p ys) ∧ R p ys := ⟨a, xs, rfl, .inr h, q⟩
theorem r_ixL {a : Addr} {xs : List V} (h : SqL K H a xs) (hx : atI xs i = some v) (q : Q v H) : rIxL K (.ref a) (.int i) H Q := ⟨a, xs, i, v, rfl, rfl, h, hx, q⟩
theorem r_ixT {a : Addr} {xs : List V} (h : SqT K H a xs) (hx : atI xs i = some v) (q : Q v H) : rIxT K (.ref a) (.int i) H Q := ⟨a, xs, i, v, rfl, rfl, h, hx, q⟩
theorem r_bm {T : String} {f : V → List V → Hp → VK → Prop} {tt : TA} (q : ta σ H fun x H1 => tyV K T x H1 ∧ tt σ H1 fun xs H2 => f x xs H2 Q) : tBM K T f ta tt σ H Q := q
theorem r_bm0 {T : String} {f : V → List V → Hp → VK → Prop} (q : ta σ H fun x H1 => tyV K T x H1 ∧ f x [] H1 Q) : tBM0 K T f ta σ H Q := q
theorem ty_list {a : Addr} {xs : List V} (h : SqL K H a xs) : tyV K "list" (.ref a) H := .inl ⟨rfl, _, h⟩
theorem r_append {l : Addr} {xs : List V} (h : H l = some (.lst xs)) (hz : xs.length < sizeLine) (q : Q .non (upd H l (.lst (xs ++ [v])))) : rAppend (.ref l) [v] H Q := ⟨l, xs, v, rfl, rfl, h, hz, q⟩
theorem r_make {C : Addr} {sp : Sp} {dvs : List V} {E : XK} {tt : TA} (q : tt σ H fun vs H1 => ∀ x dx, H1 x = none → H1 dx = none → dx ≠ x → sp (.ref x :: (vs ++ dvs)) (upd (upd H1 dx (.own x)) x (.ins C dx [])) (fun v H2 => v = .non ∧ Q (.ref x) H2) E) : tMake C sp dvs E tt σ H Q := q
end
def rListOf (K : PySem.W.Frag) : List V → Hp → VK → Prop := fun xs H Q => ∃ p ys, xs = [.ref p] ∧ (SqL K H p ys ∨ SqT K H p ys) ∧ ∀ l, H l = none → Q (.ref l) (upd H l (.lst ys))
theorem call_listK {X : Cx} {K : PySem.W.Frag} (h : X.K = K) : CallR X (.type "list") (rListOf K) := by
  subst h
  exact call_list_of
section
variable {σ : St} {H : Hp} {Q : VK} {K : PySem.W.Frag} {a : Addr} {xs : List V} {D : Ends} {ta : TE}
theorem r_mkD {C : Addr} {fld : Str} {tt : TA} {R : Value → Option Addr → Hp → Prop} (q : tt σ H fun vs H1 => ∃ v, vs = [v] ∧ fmtV v ∧ ∀ d, H1 d = none → R (.ref C) (some d) (upd H1 d (.xd [(fld, v)]))) : tMkD C fld tt σ H R := q
theorem r_mk1 {v : V} {A : V → Prop} (f : fmtV v) (q : A v) : ∃ u, [v] = [u] ∧ fmtV u ∧ A u := ⟨v, rfl, f, q⟩
theorem r_sFld {f : Str} {tv : TE} (q : tv σ H fun y H1 => ta σ H1 fun x H2 => ∃ a C dx fs, x = .ref a ∧ H2 a = some (.ins C dx fs) ∧ Cls K C ∧ NoAttr K C f ∧ fs.length < 1000 ∧ D.nx σ (upd H2 a (.ins C dx (putF f y fs)))) : sFld K ta tv f D σ H := q
theorem r_set {C dx : Addr} {f : Str} {y : V} {fs fs' : List (Str × V)} {R : Hp → Prop} (e : H a = some (.ins C dx fs)) (c : Cls K C) (n : NoAttr K C f) (l : fs.length < 1000) (p : putF f y fs = fs') (q : R (upd H a (.ins C dx fs'))) :
    ∃ a' C' dx' fs', V.ref a = .ref a' ∧ H a' = some (.ins C' dx' fs') ∧ Cls K C' ∧ NoAttr K C' f ∧ fs'.length < 1000 ∧ R (upd H a' (.ins C' dx' (putF f y fs'))) := ⟨a, C, dx, fs, rfl, e, c, n, l, by rw [p]; exact q⟩
theorem r_listL (h : SqL K H a xs) (q : ∀ l, H l = none → Q (.ref l) (upd H l (.lst xs))) : rListOf K [.ref a] H Q := ⟨a, xs, rfl, .inl h, q⟩
theorem r_listT (h : SqT K H a xs) (q : ∀ l, H l = none → Q (.ref l) (upd H l (.lst xs))) : rListOf K [.ref a] H Q := ⟨a, xs, rfl, .inr h, q⟩
theorem r_tupL {R : List V → Addr → Prop} {S : Addr → List V → Prop} (h : SqL K H a xs) (q : ∀ l, H l = none → R xs l) : ∃ p ys, [V.ref a] = [.ref p] ∧ ((SqL K H p ys ∧ ∀ l, H l = none → R ys l) ∨ (SqT K H p ys ∧ S p ys)) := ⟨a, xs, rfl, .inl ⟨h, q⟩⟩
theorem r_isi {x c : V} {t u : Value} {b : Bool} (k : ClsV c u) (ty : TyX K H x t) (e : PySem.W.kitOne K t u = some b) (q : Q (.bl b) H) : rIsi K [x, c] H Q := ⟨x, c, t, u, b, rfl, k, ty, e, q⟩
theorem r_own {C dx : Addr} {sp : Sp} {E : XK} {fs : List (Str × V)} {t : Value} {y : V} (e : H a = some (.ins C dx fs)) (ty : TyX K H y t) (nf : PySem.W.notFirst K C t = true) (q : sp [.ref a, y] H (fun v H' => (∃ b, v = .bl b) ∧ Q v H') E) : rOwn K C sp E (.ref a) y H Q := ⟨a, dx, fs, t, rfl, e, ty, nf, q⟩
end
theorem passN {X : Cx} : Passes (L2.CX X.prog X.w) X E0 := fun _ _ _ _ _ _ _ c => by
  obtain ⟨a, B, H', cls, d, _, _, _, _, _, _, _, h⟩ := c
  exact h.elim
/-- what is kept: all but lists, and the lists outside of O -/
structure Fr (O : List Addr) (H H' : Hp) : Prop where
  im : ∀ a o, H a = some o → (∀ xs, o ≠ .lst xs) → H' a = some o
  ls : ∀ a o, a ∉ O → H a = some o → H' a = some o
section
variable {O O' : List Addr} {H H1 H2 : Hp} {p l a : Addr} {o : HO} {xs ys : List V}
theorem Fr.refl : Fr O H H := ⟨fun _ _ e _ => e, fun _ _ _ e => e⟩
theorem Fr.trans (f : Fr O H H1) (g : Fr O H1 H2) : Fr O H H2 := ⟨fun a o e n => g.im a o (f.im a o e n) n, fun a o n e => g.ls a o n (f.ls a o n e)⟩
theorem Fr.mono (f : Fr O H H1) (h : ∀ a ∈ O, a ∈ O') : Fr O' H H1 := ⟨f.im, fun a o n e => f.ls a o (fun z => n (h a z)) e⟩
theorem Fr.of_same (s : Same H H1) : Fr O H H1 := ⟨fun a o e _ => s a o e, fun a o _ e => s a o e⟩
theorem Fr.same (f : Fr [] H H1) : Same H H1 := fun a o e => f.ls a o (by simp) e
theorem same_new (h : H p = none) : Same H (upd H p o) := fun b u e => by rw [upd_ne (ne_of_none e h)]; exact e
theorem Same.new (s : Same H H1) (h : H1 p = none) : Same H (upd H1 p o) := s.trans (same_new h)
theorem Fr.new (f : Fr O H H1) (h : H1 p = none) : Fr O H (upd H1 p o) := f.trans (.of_same (same_new h))
theorem Fr.put (f : Fr O H H1) (h : H1 l = some (.lst xs)) (hl : l ∈ O) : Fr O H (upd H1 l (.lst ys)) := f.trans
  ⟨fun a o e n => by
    by_cases z : a = l
    · subst z; rw [h] at e; cases e; exact absurd rfl (n xs)
    · rw [upd_ne z]; exact e, fun a o n e => by
    rw [upd_ne (show a ≠ l from fun z => n (by rw [z]; exact hl))]
    exact e⟩
theorem eq_new {H2 : Hp} (h : upd H p o = H2) (n : H p = none) : Same H H2 ∧ H2 p = some o := by
  subst h
  exact ⟨same_new n, upd_same⟩
theorem Same.put (f : Same H H1) (h : H l = none) : Same H (upd H1 l o) := fun b u e => by
  rw [upd_ne (ne_of_none e h)]; exact f b u e
theorem Fr.sqL {K : PySem.W.Frag} (f : Fr O H H1) (h : SqL K H a xs) (n : a ∉ O) : SqL K H1 a xs := by
  rcases h with (h | ⟨o, h⟩) | h
  · exact .inl (.inl (f.ls _ _ n h))
  · exact .inl (.inr ⟨o, f.ls _ _ n h⟩)
  · exact .inr h
theorem Fr.sqT {K : PySem.W.Frag} (f : Fr O H H1) (h : SqT K H a xs) : SqT K H1 a xs := by
  rcases h with (h | ⟨o, h⟩) | h
  · exact .inl (.inl (f.im _ _ h fun xs z => nomatch z))
  · exact .inl (.inr ⟨o, f.im _ _ h fun xs z => nomatch z⟩)
  · exact .inr h
theorem Same.sqT {K : PySem.W.Frag} (f : Same H H1) (h : SqT K H a xs) : SqT K H1 a xs := Fr.sqT (O := []) (.of_same f) h
theorem Fr.free (f : Fr [] H H1) (h : H1 a = none) : H a = none := f.same.free h
end
end L2
/-! data told by PyData: frames, types, isinstance -/
namespace L2
open PySem PySem.Spec PyProof.Rows
section
variable {K : PySem.W.Frag} {H H' : Hp} {Q : VK} {σ : St}
/-- all but instances is kept -/
def Kp (H H' : Hp) : Prop := ∀ a o, H a = some o → (∀ C dx fs, o ≠ .ins C dx fs) → H' a = some o
theorem Same.kp (s : Same H H') : Kp H H' := fun a o e _ => s a o e
theorem Kp.sqL (s : Kp H H') {a : Addr} {xs : List V} (h : SqL K H a xs) : SqL K H' a xs := by
  rcases h with (h | ⟨o, h⟩) | h
  · exact .inl (.inl (s _ _ h fun _ _ _ z => nomatch z))
  · exact .inl (.inr ⟨o, s _ _ h fun _ _ _ z => nomatch z⟩)
  · exact .inr h
theorem Kp.sqT (s : Kp H H') {a : Addr} {xs : List V} (h : SqT K H a xs) : SqT K H' a xs := by
  rcases h with (h | ⟨o, h⟩) | h
  · exact .inl (.inl (s _ _ h fun _ _ _ z => nomatch z))
  · exact .inl (.inr ⟨o, s _ _ h fun _ _ _ z => nomatch z⟩)
  · exact .inr h
mutual
theorem Dp.keep (s : Kp H H') : ∀ {v : V} {d : PyData}, Dp K H v d → Dp K H' v d
  | _, _, .non => .non
  | _, _, .bl b => .bl b
  | _, _, .int i => .int i
  | _, _, .str x => .str x
  | _, _, .lst q a => .lst (s.sqL q) (DpAll.keep s a)
  | _, _, .tup q a => .tup (s.sqT q) (DpAll.keep s a)
theorem DpAll.keep (s : Kp H H') : ∀ {vs : List V} {ds : List PyData}, DpAll K H vs ds → DpAll K H' vs ds
  | _, _, .nil => .nil
  | _, _, .cons h t => .cons (Dp.keep s h) (DpAll.keep s t)
end
theorem Dp.same (s : Same H H') {v : V} {d : PyData} (h : Dp K H v d) : Dp K H' v d := h.keep s.kp
theorem DpAll.same (s : Same H H') {vs : List V} {ds : List PyData} (h : DpAll K H vs ds) : DpAll K H' vs ds := h.keep s.kp
/-- all but at p is kept -/
def Off (p : Addr) (H H' : Hp) : Prop := ∀ a o, a ≠ p → H a = some o → H' a = some o
theorem Off.refl {p : Addr} : Off p H H := fun _ _ _ e => e
theorem Off.put {p : Addr} {o : HO} (f : Off p H H') : Off p H (upd H' p o) := fun a u n e => by rw [upd_ne n]; exact f a u n e
theorem Off.new {p d : Addr} {o : HO} (f : Off p H H') (h : H' d = none) : Off p H (upd H' d o) := fun a u n e => by
  have := f a u n e
  rw [upd_ne (ne_of_none this h)]; exact this
theorem Off.kp {p C dx : Addr} {fs : List (Str × V)} (f : Off p H H') (h : H p = some (.ins C dx fs)) : Kp H H' := fun a o e n => f a o (fun z => by subst z; rw [h] at e; cases e; exact n _ _ _ rfl) e
theorem same_made {x dx : Addr} {o u : HO} (hx : H x = none) (hd : H dx = none) : Same H (upd (upd H dx o) x u) := fun b v e => by
  rw [upd_ne (ne_of_none e hx), upd_ne (ne_of_none e hd)]; exact e
theorem Off.made {x dx : Addr} {o u : HO} (f : Off x (upd (upd H dx o) x u) H') (hx : H x = none) (hd : H dx = none) : Same H H' := fun b v e => f b v (ne_of_none e hx) (same_made hx hd b v e)
theorem Same.off {l : Addr} {H H1 H2 : Hp} (s : Same H H1) (f : Off l H1 H2) (h : H l = none) : Same H H2 := fun a o e => f a o (ne_of_none e h) (s a o e)
theorem Off.im {l : Addr} {xs : List V} (f : Off l H H') (h : H l = some (.lst xs)) : ∀ a o, H a = some o → (∀ xs, o ≠ .lst xs) → H' a = some o := fun a o e n => f a o (fun z => by subst z; rw [h] at e; cases e; exact n _ rfl) e
theorem Off.trans {l : Addr} {H1 H2 : Hp} (f : Off l H H1) (g : Off l H1 H2) : Off l H H2 := fun a o n e => g a o n (f a o n e)
theorem Off.of_same {l : Addr} (s : Same H H') : Off l H H' := fun a o _ e => s a o e
/-- the heap without l -/
def wo (l : Addr) (H : Hp) : Hp := fun a => if a = l then none else H a
theorem wo_at {l a : Addr} {o : HO} (n : a ≠ l) (h : H a = some o) : wo l H a = some o := by unfold wo; rw [if_neg n]; exact h
theorem of_wo {l a : Addr} {o : HO} (h : wo l H a = some o) : a ≠ l ∧ H a = some o := by
  unfold wo at h
  by_cases n : a = l
  · rw [if_pos n] at h; cases h
  · rw [if_neg n] at h; exact ⟨n, h⟩
theorem wo_le {l : Addr} : Same (wo l H) H := fun a o e => (of_wo e).2
theorem Off.wo {l : Addr} (f : Off l H H') : Same (wo l H) (wo l H') := fun a o e => wo_at (of_wo e).1 (f a o (of_wo e).1 (of_wo e).2)
/-- the truth of such a value -/
def boD : PyData → Option Bool
  | .bool b => some b
  | .int i => some (i != 0)
  | .str y => if y.length ≤ sizeLine then some ((y.length : Int) != 0) else none
  | .list ds => some (!ds.isEmpty)
  | _ => none
theorem r_boolD {x : V} {d : PyData} {g : Bool} (h : Dp K H x d) (e : boD d = some g) (q : Q (.bl g) H) : rBool K [x] H Q := by
  cases h with
  | non => cases e
  | bl b => cases e; exact ⟨_, rfl, .inl ⟨_, rfl, q⟩⟩
  | int i => cases e; exact ⟨_, rfl, .inr (.inl ⟨_, rfl, q⟩)⟩
  | str y =>
    have e' : (if y.length ≤ sizeLine then some ((y.length : Int) != 0) else none) = some g := e
    by_cases hz : y.length ≤ sizeLine
    · rw [if_pos hz] at e'; cases e'; exact ⟨_, rfl, .inr (.inr (.inl ⟨_, rfl, hz, q⟩))⟩
    · rw [if_neg hz] at e'; cases e'
  | @lst a xs ds s t =>
    refine ⟨_, rfl, .inr (.inr (.inr ⟨_, _, rfl, s, ?_⟩))⟩
    have el : xs.isEmpty = ds.isEmpty := by
      cases t with
      | nil => rfl
      | cons _ _ => rfl
    cases e
    rw [el]; exact q
  | tup s t => cases e
theorem DpAll.length : ∀ {vs : List V} {ds : List PyData}, DpAll K H vs ds → vs.length = ds.length
  | _, _, .nil => rfl
  | _, _, .cons _ t => by rw [List.length_cons, List.length_cons, DpAll.length t]
theorem DpAll.get : ∀ {vs : List V} {ds : List PyData} {i : Nat} {v : V}, DpAll K H vs ds → vs[i]? = some v → ∃ d, ds[i]? = some d ∧ Dp K H v d
  | _, _, 0, _, .cons h _, e => by simp at e; subst e; exact ⟨_, rfl, h⟩
  | _, _, i + 1, v, .cons _ t, e => by
    obtain ⟨d, h1, h2⟩ := DpAll.get (i := i) (v := v) t (by simpa using e)
    exact ⟨d, by simpa using h1, h2⟩
  | _, _, _, _, .nil, e => by simp at e
theorem DpAll.uncons {v : V} {vs : List V} {ds : List PyData} (h : DpAll K H (v :: vs) ds) : ∃ d es, ds = d :: es ∧ Dp K H v d ∧ DpAll K H vs es := by
  cases h with
  | cons a t => exact ⟨_, _, rfl, a, t⟩
theorem DpAll.append : ∀ {vs ws : List V} {ds es : List PyData}, DpAll K H vs ds → DpAll K H ws es → DpAll K H (vs ++ ws) (ds ++ es)
  | _, _, _, _, .nil, h => h
  | _, _, _, _, .cons a t, h => .cons a (DpAll.append t h)
theorem DpAll.take : ∀ {vs : List V} {ds : List PyData} (n : Nat), DpAll K H vs ds → DpAll K H (vs.take n) (ds.take n)
  | _, _, 0, _ => .nil
  | _, _, _ + 1, .nil => .nil
  | _, _, n + 1, .cons a t => .cons a (DpAll.take n t)
theorem DpAll.drop : ∀ {vs : List V} {ds : List PyData} (n : Nat), DpAll K H vs ds → DpAll K H (vs.drop n) (ds.drop n)
  | _, _, 0, h => h
  | _, _, _ + 1, .nil => .nil
  | _, _, n + 1, .cons _ t => DpAll.drop n t
def tyD : PyData → String
  | .none => "NoneType"
  | .bool _ => "bool"
  | .int _ => "int"
  | .str _ => "str"
  | .list _ => "list"
  | .tuple _ => "tuple"
  | .dict _ => "dict"
theorem Dp.ty {v : V} {d : PyData} (h : Dp K H v d) : TyX K H v (.type (tyD d)) := by
  cases h with
  | non => exact .base .non
  | bl b => exact .base (.bl b)
  | int i => exact .base (.int i)
  | str x => exact .base (.str x)
  | lst q a =>
    rcases q with (q | ⟨o, q⟩) | ⟨o, its, n, hk, hc, _⟩
    · exact .base (.lst q)
    · exact .base (.frz q)
    · exact .kList hk hc
  | tup q a =>
    rcases q with (q | ⟨o, q⟩) | ⟨o, its, n, hk, hc, _⟩
    · exact .base (.tup q)
    · exact .fTuple q
    · exact .kTuple hk hc
theorem TyX.same (s : Same H H') {v : V} {t : Value} (h : TyX K H v t) : TyX K H' v t := by
  cases h with
  | base h =>
    refine .base ?_
    cases h with
    | non => exact .non
    | bl b => exact .bl b
    | int b => exact .int b
    | str b => exact .str b
    | flt b => exact .flt b
    | lst e => exact .lst (s _ _ e)
    | frz e => exact .frz (s _ _ e)
    | tup e => exact .tup (s _ _ e)
    | dK e => exact .dK (s _ _ e)
    | dT e => exact .dT (s _ _ e)
    | ins e c a b d f => exact .ins (s _ _ e) c a b d f
  | byt b => exact .byt b
  | set e => exact .set (s _ _ e)
  | kList e c => exact .kList e c
  | kTuple e c => exact .kTuple e c
  | kDict e c => exact .kDict e c
  | fTuple e => exact .fTuple (s _ _ e)
  | fDict e => exact .fDict (s _ _ e)
theorem r_isiTy {x : V} {d : PyData} {n : String} {b : Bool} (h : Dp K H x d) (e : kitB (tyD d) n = some b) (q : Q (.bl b) H) : rIsi K [x, .ty n] H Q := r_isi (.ty n) h.ty (kit_ty e) q
/-- the items of a list or a tuple -/
def seqD : PyData → Option (List PyData)
  | .list ds => some ds
  | .tuple ds => some ds
  | _ => none
theorem seq_kit {d : PyData} (hd : ∀ kvs, d ≠ .dict kvs) : PySem.W.kitAny K (.type (tyD d)) [.type "list", .type "tuple"] = some (seqD d).isSome := by
  cases d with
  | dict kvs => exact absurd rfl (hd kvs)
  | list ds => exact kitAny_cons (b := true) (kit_ty (by show kitB "list" "list" = some true; decide +kernel)) (fun z => nomatch z) (fun _ => rfl)
  | tuple ds => exact kitAny_cons (b := false) (kit_ty (by show kitB "tuple" "list" = some false; decide +kernel)) (fun _ => kitAny_cons (b := true) (kit_ty (by show kitB "tuple" "tuple" = some true; decide +kernel)) (fun z => nomatch z) (fun _ => rfl)) (fun z => nomatch z)
  | none => exact kitAny_cons (b := false) (kit_ty (by decide +kernel)) (fun _ => kitAny_cons (b := false) (kit_ty (by decide +kernel)) (fun _ => rfl) (fun z => nomatch z)) (fun z => nomatch z)
  | bool b => exact kitAny_cons (b := false) (kit_ty (by show kitB "bool" "list" = some false; decide +kernel)) (fun _ => kitAny_cons (b := false) (kit_ty (by show kitB "bool" "tuple" = some false; decide +kernel)) (fun _ => rfl) (fun z => nomatch z)) (fun z => nomatch z)
  | int b => exact kitAny_cons (b := false) (kit_ty (by show kitB "int" "list" = some false; decide +kernel)) (fun _ => kitAny_cons (b := false) (kit_ty (by show kitB "int" "tuple" = some false; decide +kernel)) (fun _ => rfl) (fun z => nomatch z)) (fun z => nomatch z)
  | str b => exact kitAny_cons (b := false) (kit_ty (by show kitB "str" "list" = some false; decide +kernel)) (fun _ => kitAny_cons (b := false) (kit_ty (by show kitB "str" "tuple" = some false; decide +kernel)) (fun _ => rfl) (fun z => nomatch z)) (fun z => nomatch z)
theorem Dp.nodict {v : V} {d : PyData} (h : Dp K H v d) : ∀ kvs, d ≠ .dict kvs := by
  intro kvs e
  subst e
  cases h
theorem r_isiLT {x : V} {d : PyData} {tp : Addr} (h : Dp K H x d) (hT : H tp = some (.tup [.ty "list", .ty "tuple"])) (q : Q (.bl (seqD d).isSome) H) : rIsiT K [x, .ref tp] H Q :=
  ⟨x, tp, [.ty "list", .ty "tuple"], .type (tyD d), [.type "list", .type "tuple"], _, rfl, hT, .cons (.ty _) (.cons (.ty _) .nil), h.ty, seq_kit h.nodict, q⟩
/-- a list or a tuple, opened -/
theorem Dp.seq {v : V} {d : PyData} {ds : List PyData} (h : Dp K H v d) (e : seqD d = some ds) : ∃ k a xs, v = .ref a ∧ SqK K H k a xs ∧ DpAll K H xs ds := by
  cases h with
  | lst q t => cases e; exact ⟨true, _, _, rfl, q, t⟩
  | tup q t => cases e; exact ⟨false, _, _, rfl, q, t⟩
  | _ => cases e
theorem SqK.or {k : Bool} {a : Addr} {xs : List V} (h : SqK K H k a xs) : SqL K H a xs ∨ SqT K H a xs := by
  cases k with
  | true => exact .inl h
  | false => exact .inr h
theorem SqK.same {k : Bool} {a : Addr} {xs : List V} (s : Same H H') (h : SqK K H k a xs) : SqK K H' k a xs := by
  cases k with
  | true => exact s.seq h
  | false => exact s.sqT h
theorem r_lenK {k : Bool} {a : Addr} {xs : List V} {R : Addr → List V → Prop} (h : SqK K H k a xs) (q : R a xs) : ∃ p ys, [V.ref a] = [.ref p] ∧ (SqL K H p ys ∨ SqT K H p ys) ∧ R p ys := ⟨a, xs, rfl, h.or, q⟩
theorem r_ixK {k : Bool} {a : Addr} {xs : List V} {i : Int} {v : V} (h : SqK K H k a xs) (e : atI xs i = some v) (q : Q v H) : rIx K (.ref a) (.int i) H Q := by
  cases k with
  | true => exact .inl (r_ixL h e q)
  | false => exact .inr (.inl (r_ixT h e q))
def isIntD : PyData → Bool
  | .int _ => true
  | _ => false
def isBoolD : PyData → Bool
  | .bool _ => true
  | _ => false
theorem kit_int {d : PyData} (hd : ∀ kvs, d ≠ .dict kvs) : kitB (tyD d) "int" = some (isIntD d || isBoolD d) := by
  cases d with
  | dict kvs => exact absurd rfl (hd kvs)
  | bool b => show kitB "bool" "int" = some true; decide +kernel
  | int b => show kitB "int" "int" = some true; decide +kernel
  | str b => show kitB "str" "int" = some false; decide +kernel
  | list b => show kitB "list" "int" = some false; decide +kernel
  | tuple b => show kitB "tuple" "int" = some false; decide +kernel
  | none => show kitB "NoneType" "int" = some false; decide +kernel
theorem kit_bool {d : PyData} (hd : ∀ kvs, d ≠ .dict kvs) : kitB (tyD d) "bool" = some (isBoolD d) := by
  cases d with
  | dict kvs => exact absurd rfl (hd kvs)
  | bool b => show kitB "bool" "bool" = some true; decide +kernel
  | int b => show kitB "int" "bool" = some false; decide +kernel
  | str b => show kitB "str" "bool" = some false; decide +kernel
  | list b => show kitB "list" "bool" = some false; decide +kernel
  | tuple b => show kitB "tuple" "bool" = some false; decide +kernel
  | none => show kitB "NoneType" "bool" = some false; decide +kernel
/-- the promise of is_int -/
def spIsInt (K : PySem.W.Frag) : Sp := fun vs H Q _ => ∃ x d, vs = [x] ∧ Dp K H x d ∧ Q (.bl (isIntD d)) H
end
end L2
/-! loops and comprehensions, told by an invariant -/
namespace L2
open PySem PySem.Spec PyProof.Rows
section
variable {K : PySem.W.Frag} {te elt : TE} {ta : TA} {g : TG} {tb : TS} {tt : TT} {D : Ends} {σ : St} {H : Hp} {Q : VK} {vs : List Nat}
abbrev Nx (D : Ends) (N : St → Hp → Prop) : Ends := { D with nx := N, ct := N, bk := D.nx }
theorem r_forL (q : te σ H fun x H1 => ∃ a, x = .ref a ∧ ∃ xs, SqL K H1 a xs ∧ ∃ Pv : Nat → St → Hp → Prop, Pv 0 σ H1 ∧ (∀ i σ H, i ≤ xs.length → Pv i σ H → SqL K H a xs) ∧
    (∀ i x σ H, xs[i]? = some x → Pv i σ H → g x σ H fun σ2 H2 => tb (Nx D (Pv (i + 1))) σ2 H2) ∧ ∀ σ H, Pv xs.length σ H → D.nx σ H)
    (mono : ∀ Q Q' : VK, (∀ x H1, Q x H1 → Q' x H1) → te σ H Q → te σ H Q') : tFor (iList K te) g tb D σ H :=
  mono _ _ (fun x H1 ⟨a, e, xs, hq, Pv, h0, hl, hs, hd⟩ => ⟨a, e, ⟨xs, hq⟩, for_list Pv h0 hl hs hd⟩) q
theorem r_forRng {j : Int} (Pv : Nat → St → Hp → Prop) (lo : -(2 ^ 62) ≤ j) (hi : j < 2 ^ 62) (h0 : Pv 0 σ H)
    (hs : ∀ i σ H, i < j.toNat → Pv i σ H → g (.int (0 + (i : Int))) σ H fun σ2 H2 => tb (Nx D (Pv (i + 1))) σ2 H2) (hd : ∀ σ H, Pv j.toNat σ H → D.nx σ H) :
    ∃ j' : Int, [V.int j] = [.int j'] ∧ -(2 ^ 62) ≤ j' ∧ j' < 2 ^ 62 ∧ ∃ W : Nat → Nat → St → Hp → Prop, (∃ m, W 0 m σ H) ∧ ∀ i m σ H, W i m σ H →
      ((Itr 0 j'.toNat).stop i H ∧ D.nx σ H) ∨ ((Itr 0 j'.toNat).go i H ∧ ∃ N : St → Hp → Prop, (∀ σ' H', N σ' H' → ∃ m', m' < m ∧ W (i + 1) m' σ' H') ∧ ∀ x H', (Itr 0 j'.toNat).yld i H x H' → g x σ H' fun σ2 H2 => tb { D with nx := N, ct := N, bk := D.nx } σ2 H2) :=
  ⟨j, rfl, lo, hi, for_range Pv h0 hs hd⟩
theorem r_forList {a : Addr} {xs : List V} (Pv : Nat → St → Hp → Prop) (hq : SqL K H a xs) (h0 : Pv 0 σ H) (hl : ∀ i σ H, i ≤ xs.length → Pv i σ H → SqL K H a xs)
    (hs : ∀ i x σ H, xs[i]? = some x → Pv i σ H → g x σ H fun σ2 H2 => tb (Nx D (Pv (i + 1))) σ2 H2) (hd : ∀ σ H, Pv xs.length σ H → D.nx σ H) :
    ∃ a', V.ref a = .ref a' ∧ (∃ xs, SqL K H a' xs) ∧ ∃ W : Nat → Nat → St → Hp → Prop, (∃ m, W 0 m σ H) ∧ ∀ i m σ H, W i m σ H →
      ((Itl K a').stop i H ∧ D.nx σ H) ∨ ((Itl K a').go i H ∧ ∃ N : St → Hp → Prop, (∀ σ' H', N σ' H' → ∃ m', m' < m ∧ W (i + 1) m' σ' H') ∧ ∀ x H', (Itl K a').yld i H x H' → g x σ H' fun σ2 H2 => tb { D with nx := N, ct := N, bk := D.nx } σ2 H2) :=
  ⟨a, rfl, ⟨xs, hq⟩, for_list Pv h0 hl hs hd⟩
theorem r_forAny {k : Bool} {a : Addr} {xs : List V} (Pv : Nat → St → Hp → Prop) (hq : SqK K H k a xs) (h0 : Pv 0 σ H) (hl : ∀ i σ H, i ≤ xs.length → Pv i σ H → SqK K H k a xs)
    (hs : ∀ i x σ H, xs[i]? = some x → Pv i σ H → g x σ H fun σ2 H2 => tb (Nx D (Pv (i + 1))) σ2 H2) (hd : ∀ σ H, Pv xs.length σ H → D.nx σ H) :
    ∃ a', V.ref a = .ref a' ∧ ((∃ xs, SqL K H a' xs ∧ ∃ W : Nat → Nat → St → Hp → Prop, (∃ m, W 0 m σ H) ∧ ∀ i m σ H, W i m σ H →
      ((Itl K a').stop i H ∧ D.nx σ H) ∨ ((Itl K a').go i H ∧ ∃ N : St → Hp → Prop, (∀ σ' H', N σ' H' → ∃ m', m' < m ∧ W (i + 1) m' σ' H') ∧ ∀ x H', (Itl K a').yld i H x H' → g x σ H' fun σ2 H2 => tb { D with nx := N, ct := N, bk := D.nx } σ2 H2)) ∨
      ∃ xs, SqT K H a' xs ∧ ∃ W : Nat → Nat → St → Hp → Prop, (∃ m, W 0 m σ H) ∧ ∀ i m σ H, W i m σ H →
      ((Itt K a').stop i H ∧ D.nx σ H) ∨ ((Itt K a').go i H ∧ ∃ N : St → Hp → Prop, (∀ σ' H', N σ' H' → ∃ m', m' < m ∧ W (i + 1) m' σ' H') ∧ ∀ x H', (Itt K a').yld i H x H' → g x σ H' fun σ2 H2 => tb { D with nx := N, ct := N, bk := D.nx } σ2 H2)) := by
  refine ⟨a, rfl, ?_⟩
  cases k with
  | true => exact .inl ⟨xs, hq, for_list Pv h0 hl hs hd⟩
  | false => exact .inr ⟨xs, hq, for_tup Pv h0 hl hs hd⟩
theorem r_forNum {k : Bool} {a : Addr} {xs : List V} (Pv : Nat → St → Hp → Prop) (hk : SqK K H k a xs) (h0 : Pv 0 σ H) (hq : ∀ i σ H, Pv i σ H → SqK K H k a xs)
    (hs : ∀ (i : Nat) (x : V) (T : Addr) (σ : St) (H : Hp), xs[i]? = some x → Pv i σ H → H T = none → g (.ref T) σ (upd H T (.tup [.int (i : Nat), x])) fun σ2 H2 => tb (Nx D (Pv (i + 1))) σ2 H2) (hd : ∀ σ H, Pv xs.length σ H → D.nx σ H) :
    ∃ k' a' xs', [V.ref a] = [.ref a'] ∧ SqK K H k' a' xs' ∧ ∃ W : Nat → Nat → St → Hp → Prop, (∃ m, W 0 m σ H) ∧ ∀ i m σ H, W i m σ H →
      ((Itn K k' a').stop i H ∧ D.nx σ H) ∨ ((Itn K k' a').go i H ∧ ∃ N : St → Hp → Prop, (∀ σ' H', N σ' H' → ∃ m', m' < m ∧ W (i + 1) m' σ' H') ∧ ∀ v H', (Itn K k' a').yld i H v H' → g v σ H' fun σ2 H2 => tb { D with nx := N, ct := N, bk := D.nx } σ2 H2) :=
  ⟨k, a, xs, rfl, hk, for_numbered Pv h0 hq hs hd⟩
theorem r_forZip {k1 k2 : Bool} {a b : Addr} {xs ys : List V} (hl : xs.length = ys.length) (Pv : Nat → St → Hp → Prop) (hx : SqK K H k1 a xs) (hy : SqK K H k2 b ys) (h0 : Pv 0 σ H) (hq : ∀ i σ H, Pv i σ H → SqK K H k1 a xs ∧ SqK K H k2 b ys)
    (hs : ∀ (i : Nat) (x y : V) (T : Addr) (σ : St) (H : Hp), xs[i]? = some x → ys[i]? = some y → Pv i σ H → H T = none → g (.ref T) σ (upd H T (.tup [x, y])) fun σ2 H2 => tb (Nx D (Pv (i + 1))) σ2 H2) (hd : ∀ σ H, Pv xs.length σ H → D.nx σ H) :
    ∃ k1' k2' a' b' xs' ys', [V.ref a, .ref b] = [.ref a', .ref b'] ∧ SqK K H k1' a' xs' ∧ SqK K H k2' b' ys' ∧ ∃ W : Nat → Nat → St → Hp → Prop, (∃ m, W 0 m σ H) ∧ ∀ i m σ H, W i m σ H →
      ((Itp K k1' k2' a' b').stop i H ∧ D.nx σ H) ∨ ((Itp K k1' k2' a' b').go i H ∧ ∃ N : St → Hp → Prop, (∀ σ' H', N σ' H' → ∃ m', m' < m ∧ W (i + 1) m' σ' H') ∧ ∀ v H', (Itp K k1' k2' a' b').yld i H v H' → g v σ H' fun σ2 H2 => tb { D with nx := N, ct := N, bk := D.nx } σ2 H2) :=
  ⟨k1, k2, a, b, xs, ys, rfl, hx, hy, for_pairs hl Pv h0 hq hs hd⟩
theorem r_while {c : TT} (Pv : Nat → St → Hp → Prop) (m : Nat) (h0 : Pv m σ H) (hs : ∀ m σ H, Pv m σ H → c σ H fun b H1 => if b = true then ∃ N : St → Hp → Prop, (∀ σ' H', N σ' H' → ∃ m', m' < m ∧ Pv m' σ' H') ∧ tb (Nx D N) σ H1 else D.nx σ H1) : tWhile c tb D σ H :=
  ⟨Pv, ⟨m, h0⟩, hs⟩
/-! walks' readings -/
theorem r_iList {R : It → Hp → Prop} (q : te σ H fun x H1 => ∃ a, x = .ref a ∧ (∃ xs, SqL K H1 a xs) ∧ R (Itl K a) H1) : iList K te σ H R := q
theorem r_iTup {R : It → Hp → Prop} (q : te σ H fun x H1 => ∃ a, x = .ref a ∧ (∃ xs, SqT K H1 a xs) ∧ R (Itt K a) H1) : iTup K te σ H R := q
theorem r_iAny {R : It → Hp → Prop} (q : te σ H fun x H1 => ∃ a, x = .ref a ∧ ((∃ xs, SqL K H1 a xs ∧ R (Itl K a) H1) ∨ ∃ xs, SqT K H1 a xs ∧ R (Itt K a) H1)) : iAny K te σ H R := q
theorem r_iNum {R : It → Hp → Prop} (q : ta σ H fun vs H1 => ∃ k a xs, vs = [.ref a] ∧ SqK K H1 k a xs ∧ R (Itn K k a) H1) : iEnumM K ta σ H R := q
theorem r_iZip {R : It → Hp → Prop} (q : ta σ H fun vs H1 => ∃ k1 k2 a b xs ys, vs = [.ref a, .ref b] ∧ SqK K H1 k1 a xs ∧ SqK K H1 k2 b ys ∧ R (Itp K k1 k2 a b) H1) : iZipM K ta σ H R := q
/-! targets -/
theorem r_gTup {t : TGs} {n : Nat} {a : Addr} {xs : List V} {R : St → Hp → Prop} (h : H a = some (.tup xs)) (hl : xs.length = n) (q : t xs σ H R) : gTup K n t (.ref a) σ H R := ⟨a, xs, rfl, .inl (.inl h), hl, q⟩
theorem r_gTupK {t : TGs} {n : Nat} {a : Addr} {xs : List V} {R : St → Hp → Prop} (h : SqT K H a xs) (hl : xs.length = n) (q : t xs σ H R) : gTup K n t (.ref a) σ H R := ⟨a, xs, rfl, h, hl, q⟩
theorem r_gCons {t : TG} {u : TGs} {v : V} {vs : List V} {R : St → Hp → Prop} (q : t v σ H fun σ1 H1 => u vs σ1 H1 R) : gCons t u (v :: vs) σ H R := ⟨v, vs, rfl, q⟩
theorem r_gNil {R : St → Hp → Prop} (q : R σ H) : gNil [] σ H R := ⟨rfl, q⟩
theorem r_gSub {to ti : TE} {t : TSet} {x : V} {R : St → Hp → Prop} (q : to σ H fun o H1 => ti σ H1 fun i H2 => t o i x H2 (R σ)) : gSub to ti t x σ H R := q
theorem r_revL (q : te σ H fun x H1 => ∃ a xs, x = .ref a ∧ SqL K H1 a xs ∧ ∀ p, H1 p = none → Q (.ref p) (upd H1 p (.lst xs.reverse))) : tRevL K te σ H Q := q
theorem r_rev {a : Addr} {xs : List V} {R : List V → Addr → Prop} (h : SqL K H a xs) (q : ∀ p, H p = none → R xs p) : ∃ a' xs', V.ref a = .ref a' ∧ SqL K H a' xs' ∧ ∀ p, H p = none → R xs' p := ⟨a, xs, rfl, h, q⟩
/-! comprehensions -/
theorem r_tLc {wi : TI} (q : wi σ H fun J H1 => ∀ D, H1 D = none → ∃ W : Nat → Nat → Hp → Prop, (∃ m, W 0 m (upd H1 D (.lst []))) ∧ ∀ i m H, W i m H →
  (J.stop i H ∧ Q (.ref D) H) ∨ (J.go i H ∧ ∃ Nx : Hp → Prop, (∀ H', Nx H' → ∃ m', m' < m ∧ W (i + 1) m' H') ∧ ∀ x H', J.yld i H x H' → g x (wipe σ vs) H' fun σ2 H2 => wipe σ2 vs = wipe σ vs ∧ tt σ2 H2 fun b H3 =>
    if b = true then elt σ2 H3 fun y H4 => ∃ acc, H4 D = some (.lst acc) ∧ acc.length < sizeLine ∧ Nx (upd H4 D (.lst (acc ++ [y]))) else Nx H3)) : tLc wi g tt elt vs σ H Q := q
theorem r_lcRng {j : Int} {Q : Addr → Hp → Prop} (Pv : Addr → Nat → Hp → Prop) (lo : -(2 ^ 62) ≤ j) (hi : j < 2 ^ 62) (h0 : ∀ D, H D = none → Pv D 0 (upd H D (.lst [])))
    (hs : ∀ D, H D = none → ∀ i H, i < j.toNat → Pv D i H → g (.int (0 + (i : Int))) (wipe σ vs) H fun σ2 H2 => wipe σ2 vs = wipe σ vs ∧ tt σ2 H2 fun b H3 =>
      if b = true then elt σ2 H3 fun y H4 => ∃ acc, H4 D = some (.lst acc) ∧ acc.length < sizeLine ∧ Pv D (i + 1) (upd H4 D (.lst (acc ++ [y]))) else Pv D (i + 1) H3) (hd : ∀ D, H D = none → ∀ H, Pv D j.toNat H → Q D H) :
    ∃ j' : Int, [V.int j] = [.int j'] ∧ -(2 ^ 62) ≤ j' ∧ j' < 2 ^ 62 ∧ ∀ D, H D = none → ∃ W : Nat → Nat → Hp → Prop, (∃ m, W 0 m (upd H D (.lst []))) ∧ ∀ i m H, W i m H →
      ((Itr 0 j'.toNat).stop i H ∧ Q D H) ∨ ((Itr 0 j'.toNat).go i H ∧ ∃ Nx : Hp → Prop, (∀ H', Nx H' → ∃ m', m' < m ∧ W (i + 1) m' H') ∧ ∀ x H', (Itr 0 j'.toNat).yld i H x H' → g x (wipe σ vs) H' fun σ2 H2 => wipe σ2 vs = wipe σ vs ∧ tt σ2 H2 fun b H3 =>
        if b = true then elt σ2 H3 fun y H4 => ∃ acc, H4 D = some (.lst acc) ∧ acc.length < sizeLine ∧ Nx (upd H4 D (.lst (acc ++ [y]))) else Nx H3) :=
  ⟨j, rfl, lo, hi, fun D hD => lc_range (Pv D) (h0 D hD) (hs D hD) (hd D hD)⟩
theorem r_lcList {a : Addr} {xs : List V} {Q : Addr → Hp → Prop} (Pv : Addr → Nat → Hp → Prop) (hq : SqL K H a xs) (h0 : ∀ D, H D = none → Pv D 0 (upd H D (.lst []))) (hl : ∀ D, H D = none → ∀ i H, i ≤ xs.length → Pv D i H → SqL K H a xs)
    (hs : ∀ D, H D = none → ∀ i x H, xs[i]? = some x → Pv D i H → g x (wipe σ vs) H fun σ2 H2 => wipe σ2 vs = wipe σ vs ∧ tt σ2 H2 fun b H3 =>
      if b = true then elt σ2 H3 fun y H4 => ∃ acc, H4 D = some (.lst acc) ∧ acc.length < sizeLine ∧ Pv D (i + 1) (upd H4 D (.lst (acc ++ [y]))) else Pv D (i + 1) H3) (hd : ∀ D, H D = none → ∀ H, Pv D xs.length H → Q D H) :
    ∃ a', V.ref a = .ref a' ∧ (∃ xs, SqL K H a' xs) ∧ ∀ D, H D = none → ∃ W : Nat → Nat → Hp → Prop, (∃ m, W 0 m (upd H D (.lst []))) ∧ ∀ i m H, W i m H →
      ((Itl K a').stop i H ∧ Q D H) ∨ ((Itl K a').go i H ∧ ∃ Nx : Hp → Prop, (∀ H', Nx H' → ∃ m', m' < m ∧ W (i + 1) m' H') ∧ ∀ x H', (Itl K a').yld i H x H' → g x (wipe σ vs) H' fun σ2 H2 => wipe σ2 vs = wipe σ vs ∧ tt σ2 H2 fun b H3 =>
        if b = true then elt σ2 H3 fun y H4 => ∃ acc, H4 D = some (.lst acc) ∧ acc.length < sizeLine ∧ Nx (upd H4 D (.lst (acc ++ [y]))) else Nx H3) :=
  ⟨a, rfl, ⟨xs, hq⟩, fun D hD => lc_list (Pv D) (h0 D hD) (hl D hD) (hs D hD) (hd D hD)⟩
theorem fmt_small {i : Int} (h : i.natAbs ≤ 1000) : fmtV (.int i) := by
  show i.natAbs.log2 < 1900
  have := Nat.log2_le_self i.natAbs
  omega
theorem r_named {cls c : Value} {d : Option Addr} {i : Nat} {W : WX} {ts : Addr → Value → Option Addr → TS} {r : List Clause} (h : PySem.W.exmOne K cls c = some true) (q : ∀ a, H a = none → ts a cls d (gone D i) (σ.set i (some (.ref a))) H) : WE (wNamed K W D ((c, some i, ts) :: r)) σ cls d H :=
  ⟨true, h, fun _ => q, fun z => nomatch z⟩
theorem r_bare {cls c : Value} {d : Option Addr} {W : WX} {ts : Addr → Value → Option Addr → TS} {r : List Clause} (h : PySem.W.exmOne K cls c = some true) (q : ∀ a, H a = none → ts a cls d D σ H) : WE (wNamed K W D ((c, none, ts) :: r)) σ cls d H :=
  ⟨true, h, fun _ => q, fun z => nomatch z⟩
theorem r_skip {cls c : Value} {d : Option Addr} {o : Option Nat} {W : WX} {ts : Addr → Value → Option Addr → TS} {r : List Clause} (h : PySem.W.exmOne K cls c = some false) (q : WE (wNamed K W D r) σ cls d H) : WE (wNamed K W D ((c, o, ts) :: r)) σ cls d H := by
  cases o with
  | none => exact ⟨false, h, (fun z => nomatch z), fun _ => q⟩
  | some i => exact ⟨false, h, (fun z => nomatch z), fun _ => q⟩
theorem r_makeS {C : Addr} {sp : Sp} {E : St → XK} (q : ta σ H fun vs H1 => ∀ x dx, H1 x = none → H1 dx = none → dx ≠ x → sp (.ref x :: vs) (upd (upd H1 dx (.own x)) x (.ins C dx [])) (fun v H2 => v = .non ∧ Q (.ref x) H2) (E σ)) : tMakeS C sp E ta σ H Q := q
theorem r_tXf {a C : Addr} {cls : Value} {d : Option Addr} {f : Str} (q : te σ H fun x H1 => x = .ref a ∧ cls = .ref C ∧ ∃ (dd : Addr) (fs : List (Str × V)) (v : V), d = some dd ∧ H1 dd = some (.xd fs) ∧ fs.lookup f = some v ∧ Q v H1) : tXf a cls d C f te σ H Q := q
theorem r_tSl {r : V → Option Int → Option Int → Hp → VK → Prop} {tl th : TO} (q : te σ H fun x H1 => tl σ H1 fun l H2 => th σ H2 fun u H3 => r x l u H3 Q) : tSl r te tl th σ H Q := q
theorem r_noPart {R : Option Int → Hp → Prop} (q : R none H) : tNoPart σ H R := q
theorem r_part {R : Option Int → Hp → Prop} (q : te σ H fun x H1 => ∃ i, x = .int i ∧ R (some i) H1) : tPart te σ H R := q
theorem r_partI {R : Int → Prop} {i : Int} (q : R i) : ∃ j, V.int i = .int j ∧ R j := ⟨i, rfl, q⟩
theorem r_slL {a : Addr} {xs : List V} {lo hi : Option Int} (h : SqL K H a xs) (q : ∀ p, H p = none → Q (.ref p) (upd H p (.lst (cutV xs lo hi)))) : rSlL K (.ref a) lo hi H Q := ⟨a, xs, rfl, h, q⟩
theorem cutV_to {xs : List V} {k : Nat} : cutV xs none (some (k : Int)) = xs.take k := by
  unfold cutV
  rw [HT.sIx_none, HT.sIx_nat, Nat.sub_zero, List.drop_zero]
  by_cases h : k ≤ xs.length
  · rw [Nat.min_eq_left h]
  · rw [Nat.min_eq_right (by omega), List.take_length, List.take_of_length_le (by omega)]
theorem cutV_from {xs : List V} {k : Nat} : cutV xs (some (k : Int)) none = xs.drop k := by
  unfold cutV
  rw [HT.sIx_none, HT.sIx_nat]
  by_cases h : k ≤ xs.length
  · rw [Nat.min_eq_left h, List.take_of_length_le (by rw [List.length_drop]; omega)]
  · rw [Nat.min_eq_right (by omega), Nat.sub_self, List.take_zero, List.drop_of_length_le (by omega)]
theorem r_cat {l b : Addr} {xs zs : List V} (h1 : H l = some (.lst xs)) (h2 : H b = some (.lst zs)) (hz : xs.length + zs.length ≤ sizeLine) (q : ∀ p, H p = none → Q (.ref p) (upd H p (.lst (xs ++ zs)))) : rCat (.ref l) (.ref b) H Q := ⟨l, b, xs, zs, rfl, rfl, h1, h2, hz, q⟩
theorem r_min2 {i j : Int} {R : Int → Int → Prop} (q : R i j) : ∃ i' j', [V.int i, V.int j] = [.int i', .int j'] ∧ R i' j' := ⟨i, j, rfl, q⟩
theorem r_neD {x y : V} {d e : PyData} (h1 : Dp K H x d) (h2 : Dp K H y e) (s1 : SeqAt.shaped d = true) (s2 : SeqAt.shaped e = true) (q : Q (.bl (!PyData.eqv d e)) H) : rNeD K x y H Q := ⟨d, e, h1, h2, s1, s2, q⟩
theorem r_eqD {x y : V} {d e : PyData} (h1 : Dp K H x d) (h2 : Dp K H y e) (s1 : SeqAt.shaped d = true) (s2 : SeqAt.shaped e = true) (q : Q (.bl (PyData.eqv d e)) H) : rEqD K x y H Q := ⟨d, e, h1, h2, s1, s2, q⟩
theorem r_cut {N B C : St → Hp → Prop} {R : VK} {c : TT} {t u : TS} (Pm : St → Hp → Prop) (h : ∀ N' : St → Hp → Prop, (∀ σ' H', Pm σ' H' → N' σ' H') → tIfS c t u ⟨N', R, B, C⟩ σ H) (hN : ∀ σ' H', Pm σ' H' → N σ' H') : tIfS c t u ⟨N, R, B, C⟩ σ H := h N hN
/-- two branches that meet again: what holds where they meet -/
theorem r_join {N B C : St → Hp → Prop} {R : VK} {c : Bool} {t u : TS} (Pm : St → Hp → Prop) (h1 : c = true → ∀ N' : St → Hp → Prop, (∀ σ' H', Pm σ' H' → N' σ' H') → t ⟨N', R, B, C⟩ σ H)
    (h2 : c = false → ∀ N' : St → Hp → Prop, (∀ σ' H', Pm σ' H' → N' σ' H') → u ⟨N', R, B, C⟩ σ H) (hN : ∀ σ' H', Pm σ' H' → N σ' H') : if c = true then t ⟨N, R, B, C⟩ σ H else u ⟨N, R, B, C⟩ σ H :=
  r_ite (fun hc => h1 hc N hN) (fun hc => h2 hc N hN)
theorem ixN_k {n j : Nat} (hj : j < n) : ixN n (j : Int) = some j := by
  unfold ixN
  rw [if_pos (by omega), if_pos (by omega), Int.toNat_natCast]
theorem c_div {i j : Int} (h : 0 < j) (h2 : j < 1073741824) : CDiv i j := ⟨h, h2⟩
theorem c_mulL {i j : Int} (h : -(2 ^ 64) < i) (h2 : i < 2 ^ 64) : CMul i j := .inl ⟨h, h2⟩
theorem c_mulR {i j : Int} (h : -(2 ^ 64) < j) (h2 : j < 2 ^ 64) : CMul i j := .inr ⟨h, h2⟩
theorem c_pow {i j : Int} (h : 0 ≤ j) (h2 : j ≤ 1000000) (h3 : i.natAbs < 2 ^ 64) : CPow i j := ⟨h, h2, h3⟩
theorem c_pos {j : Int} (h : 0 < j) : 0 < j := h
theorem r_yes {R : Bool → Hp → Prop} (q : R true H) : tYes σ H R := q
end
end L2
namespace R82
open PySem L2
def topS (i : Nat) : Stmt := PySem.Challenge.pw_deeplooks_k82_registers.main.body.getD i (.Pass ⟨0, 0, 0, 0⟩)
abbrev s_BadSet_init : Stmt := inClass (topS 2) 0
abbrev s_BadEvidence_init : Stmt := inClass (topS 3) 0
abbrev s_BadLine_init : Stmt := inClass (topS 4) 0
abbrev s_is_int : Stmt := topS 6
abbrev s_evidence_number : Stmt := topS 9
abbrev s_Zero_eq : Stmt := inClass (topS 13) 0
abbrev s_Mix_init : Stmt := inClass (topS 14) 0
abbrev s_Mix_eq : Stmt := inClass (topS 14) 1
abbrev s_mixed_row : Stmt := topS 15
abbrev s_register_of : Stmt := topS 16
abbrev s_rows_told : Stmt := topS 17
abbrev s_clean_register : Stmt := topS 18
abbrev s__law_pool : Stmt := topS 20
abbrev s__law_next : Stmt := topS 21
abbrev s__law_row : Stmt := topS 22
abbrev s__law_number : Stmt := topS 23
abbrev s__law_said : Stmt := topS 24
abbrev s__law_is_register : Stmt := topS 25
abbrev s__law_told : Stmt := topS 26
abbrev s__law_built : Stmt := topS 27
abbrev s__law_refused : Stmt := topS 28
abbrev s__law_unclean : Stmt := topS 29
abbrev s__law_unmixed : Stmt := topS 30
abbrev s__law_errors : Stmt := topS 31
abbrev s__law_other : Stmt := topS 32
abbrev s_law : Stmt := topS 33
def q_BadSet : Nat → Pos := fun i => ([⟨7, 8, 7, 13⟩, ⟨7, 8, 7, 15⟩, ⟨7, 8, 7, 24⟩, ⟨7, 27, 7, 35⟩, ⟨7, 36, 7, 40⟩, ⟨7, 35, 7, 41⟩, ⟨7, 25, 7, 42⟩, ⟨7, 8, 7, 43⟩, ⟨7, 8, 7, 43⟩, ⟨8, 8, 8, 12⟩, ⟨8, 8, 8, 17⟩, ⟨8, 20, 8, 24⟩, ⟨8, 8, 8, 24⟩] : List Pos).getD i ⟨0, 0, 0, 0⟩
def q_BadEvidence : Nat → Pos := fun i => ([⟨12, 8, 12, 13⟩, ⟨12, 8, 12, 15⟩, ⟨12, 8, 12, 24⟩, ⟨12, 27, 12, 40⟩, ⟨12, 41, 12, 45⟩, ⟨12, 40, 12, 46⟩, ⟨12, 25, 12, 47⟩, ⟨12, 8, 12, 48⟩, ⟨12, 8, 12, 48⟩, ⟨13, 8, 13, 12⟩, ⟨13, 8, 13, 17⟩, ⟨13, 20, 13, 24⟩, ⟨13, 8, 13, 24⟩] : List Pos).getD i ⟨0, 0, 0, 0⟩
def q_BadLine : Nat → Pos := fun i => ([⟨17, 8, 17, 13⟩, ⟨17, 8, 17, 15⟩, ⟨17, 8, 17, 24⟩, ⟨17, 27, 17, 36⟩, ⟨17, 37, 17, 42⟩, ⟨17, 36, 17, 43⟩, ⟨17, 25, 17, 44⟩, ⟨17, 8, 17, 45⟩, ⟨17, 8, 17, 45⟩, ⟨18, 8, 18, 12⟩, ⟨18, 8, 18, 18⟩, ⟨18, 21, 18, 26⟩, ⟨18, 8, 18, 26⟩] : List Pos).getD i ⟨0, 0, 0, 0⟩
structure Top (P : Program) (K : PySem.W.Frag) (mg : Str → Option Value) where
  a_is_int : Addr
  d_is_int : FuncData
  F_is_int : Fun K "is_int" "is_int" s_is_int a_is_int d_is_int
  b_is_int : Binds K d_is_int ["value"] []
  m_is_int : mg "is_int" = some (.ref a_is_int)
  a_evidence_number : Addr
  d_evidence_number : FuncData
  F_evidence_number : Fun K "evidence_number" "evidence_number" s_evidence_number a_evidence_number d_evidence_number
  b_evidence_number : Binds K d_evidence_number ["value", "last", "name"] []
  m_evidence_number : mg "evidence_number" = some (.ref a_evidence_number)
  a_mixed_row : Addr
  d_mixed_row : FuncData
  F_mixed_row : Fun K "mixed_row" "mixed_row" s_mixed_row a_mixed_row d_mixed_row
  b_mixed_row : Binds K d_mixed_row ["looks"] []
  m_mixed_row : mg "mixed_row" = some (.ref a_mixed_row)
  a_register_of : Addr
  d_register_of : FuncData
  F_register_of : Fun K "register_of" "register_of" s_register_of a_register_of d_register_of
  b_register_of : Binds K d_register_of ["looks", "words"] []
  m_register_of : mg "register_of" = some (.ref a_register_of)
  a_rows_told : Addr
  d_rows_told : FuncData
  F_rows_told : Fun K "rows_told" "rows_told" s_rows_told a_rows_told d_rows_told
  b_rows_told : Binds K d_rows_told ["register"] []
  m_rows_told : mg "rows_told" = some (.ref a_rows_told)
  a_clean_register : Addr
  d_clean_register : FuncData
  F_clean_register : Fun K "clean_register" "clean_register" s_clean_register a_clean_register d_clean_register
  b_clean_register : Binds K d_clean_register ["looks"] []
  m_clean_register : mg "clean_register" = some (.ref a_clean_register)
  a__law_pool : Addr
  d__law_pool : FuncData
  F__law_pool : Fun K "_law_pool" "_law_pool" s__law_pool a__law_pool d__law_pool
  b__law_pool : Binds K d__law_pool ["script"] []
  m__law_pool : mg "_law_pool" = some (.ref a__law_pool)
  a__law_next : Addr
  d__law_next : FuncData
  F__law_next : Fun K "_law_next" "_law_next" s__law_next a__law_next d__law_next
  b__law_next : Binds K d__law_next ["pool", "many"] []
  m__law_next : mg "_law_next" = some (.ref a__law_next)
  a__law_row : Addr
  d__law_row : FuncData
  F__law_row : Fun K "_law_row" "_law_row" s__law_row a__law_row d__law_row
  b__law_row : Binds K d__law_row ["pool", "size"] []
  m__law_row : mg "_law_row" = some (.ref a__law_row)
  a__law_number : Addr
  d__law_number : FuncData
  F__law_number : Fun K "_law_number" "_law_number" s__law_number a__law_number d__law_number
  b__law_number : Binds K d__law_number ["value", "due"] []
  m__law_number : mg "_law_number" = some (.ref a__law_number)
  a__law_said : Addr
  d__law_said : FuncData
  F__law_said : Fun K "_law_said" "_law_said" s__law_said a__law_said d__law_said
  b__law_said : Binds K d__law_said ["value", "due"] []
  m__law_said : mg "_law_said" = some (.ref a__law_said)
  a__law_is_register : Addr
  d__law_is_register : FuncData
  F__law_is_register : Fun K "_law_is_register" "_law_is_register" s__law_is_register a__law_is_register d__law_is_register
  b__law_is_register : Binds K d__law_is_register ["told", "looks", "words"] []
  m__law_is_register : mg "_law_is_register" = some (.ref a__law_is_register)
  a__law_told : Addr
  d__law_told : FuncData
  F__law_told : Fun K "_law_told" "_law_told" s__law_told a__law_told d__law_told
  b__law_told : Binds K d__law_told ["told", "looks", "words"] []
  m__law_told : mg "_law_told" = some (.ref a__law_told)
  a__law_built : Addr
  d__law_built : FuncData
  F__law_built : Fun K "_law_built" "_law_built" s__law_built a__law_built d__law_built
  b__law_built : Binds K d__law_built ["looks", "words"] []
  m__law_built : mg "_law_built" = some (.ref a__law_built)
  a__law_refused : Addr
  d__law_refused : FuncData
  F__law_refused : Fun K "_law_refused" "_law_refused" s__law_refused a__law_refused d__law_refused
  b__law_refused : Binds K d__law_refused ["looks", "words"] []
  m__law_refused : mg "_law_refused" = some (.ref a__law_refused)
  a__law_unclean : Addr
  d__law_unclean : FuncData
  F__law_unclean : Fun K "_law_unclean" "_law_unclean" s__law_unclean a__law_unclean d__law_unclean
  b__law_unclean : Binds K d__law_unclean ["looks"] []
  m__law_unclean : mg "_law_unclean" = some (.ref a__law_unclean)
  a__law_unmixed : Addr
  d__law_unmixed : FuncData
  F__law_unmixed : Fun K "_law_unmixed" "_law_unmixed" s__law_unmixed a__law_unmixed d__law_unmixed
  b__law_unmixed : Binds K d__law_unmixed ["inner", "measurer", "target"] []
  m__law_unmixed : mg "_law_unmixed" = some (.ref a__law_unmixed)
  a__law_errors : Addr
  d__law_errors : FuncData
  F__law_errors : Fun K "_law_errors" "_law_errors" s__law_errors a__law_errors d__law_errors
  b__law_errors : Binds K d__law_errors ["pool", "looks", "words"] []
  m__law_errors : mg "_law_errors" = some (.ref a__law_errors)
  a__law_other : Addr
  d__law_other : FuncData
  F__law_other : Fun K "_law_other" "_law_other" s__law_other a__law_other d__law_other
  b__law_other : Binds K d__law_other ["pool", "looks", "words"] []
  m__law_other : mg "_law_other" = some (.ref a__law_other)
  a_law : Addr
  d_law : FuncData
  F_law : Fun K "law" "law" s_law a_law d_law
  b_law : Binds K d_law ["script"] []
  m_law : mg "law" = some (.ref a_law)
  C_DeepError : Addr
  m_DeepError : mg "DeepError" = some (.ref C_DeepError)
  C_Register : Addr
  m_Register : mg "Register" = some (.ref C_Register)
  cl_Register : Cls K C_Register
  ic_Register : PySem.W.findIn K (.ref C_Register) "__class__" = some (some (.builtin "object.__class__"))
  io_Register : PySem.W.mroIn K C_Register (.type "object") = some true
  k_Register : Mk0 K C_Register
  C_Zero : Addr
  m_Zero : mg "Zero" = some (.ref C_Zero)
  cl_Zero : Cls K C_Zero
  ic_Zero : PySem.W.findIn K (.ref C_Zero) "__class__" = some (some (.builtin "object.__class__"))
  io_Zero : PySem.W.mroIn K C_Zero (.type "object") = some true
  a_Zero_eq : Addr
  d_Zero_eq : FuncData
  F_Zero_eq : Fun K "__eq__" "Zero.__eq__" s_Zero_eq a_Zero_eq d_Zero_eq
  b_Zero_eq : Binds K d_Zero_eq ["self", "other"] []
  fi_Zero_eq : PySem.W.findIn K (.ref C_Zero) "__eq__" = some (some (.ref a_Zero_eq))
  fn_Zero_eq : PySem.W.isFn K (.ref a_Zero_eq) = true
  k_Zero : Mk0 K C_Zero
  C_Mix : Addr
  m_Mix : mg "Mix" = some (.ref C_Mix)
  cl_Mix : Cls K C_Mix
  ic_Mix : PySem.W.findIn K (.ref C_Mix) "__class__" = some (some (.builtin "object.__class__"))
  io_Mix : PySem.W.mroIn K C_Mix (.type "object") = some true
  a_Mix_init : Addr
  d_Mix_init : FuncData
  F_Mix_init : Fun K "__init__" "Mix.__init__" s_Mix_init a_Mix_init d_Mix_init
  b_Mix_init : Binds K d_Mix_init ["self", "inner", "measurer", "target", "good"] []
  fi_Mix_init : PySem.W.findIn K (.ref C_Mix) "__init__" = some (some (.ref a_Mix_init))
  fn_Mix_init : PySem.W.isFn K (.ref a_Mix_init) = true
  a_Mix_eq : Addr
  d_Mix_eq : FuncData
  F_Mix_eq : Fun K "__eq__" "Mix.__eq__" s_Mix_eq a_Mix_eq d_Mix_eq
  b_Mix_eq : Binds K d_Mix_eq ["self", "other"] []
  fi_Mix_eq : PySem.W.findIn K (.ref C_Mix) "__eq__" = some (some (.ref a_Mix_eq))
  fn_Mix_eq : PySem.W.isFn K (.ref a_Mix_eq) = true
  k_Mix : Mk K C_Mix a_Mix_init
  n_Mix_inner : NoAttr K C_Mix "inner"
  n_Mix_measurer : NoAttr K C_Mix "measurer"
  n_Mix_target : NoAttr K C_Mix "target"
  n_Mix_good : NoAttr K C_Mix "good"
  cg : PySem.W.specialIn K (.builtin "object.__class__") "__get__" = some (some (.builtin "getset_descriptor.__get__"))
  ct : PySem.W.takesIn K (.builtin "object.__class__") = some true
  is_Zero_Register : PySem.W.kitOne K (.ref C_Zero) (.ref C_Register) = some true
  is_Zero_Zero : PySem.W.kitOne K (.ref C_Zero) (.ref C_Zero) = some true
  is_Zero_Mix : PySem.W.kitOne K (.ref C_Zero) (.ref C_Mix) = some false
  is_Mix_Register : PySem.W.kitOne K (.ref C_Mix) (.ref C_Register) = some true
  is_Mix_Zero : PySem.W.kitOne K (.ref C_Mix) (.ref C_Zero) = some false
  is_Mix_Mix : PySem.W.kitOne K (.ref C_Mix) (.ref C_Mix) = some true
  is_NoneType_Register : PySem.W.kitOne K (.type "NoneType") (.ref C_Register) = some false
  is_NoneType_Zero : PySem.W.kitOne K (.type "NoneType") (.ref C_Zero) = some false
  is_NoneType_Mix : PySem.W.kitOne K (.type "NoneType") (.ref C_Mix) = some false
  is_int_Register : PySem.W.kitOne K (.type "int") (.ref C_Register) = some false
  is_int_Zero : PySem.W.kitOne K (.type "int") (.ref C_Zero) = some false
  is_int_Mix : PySem.W.kitOne K (.type "int") (.ref C_Mix) = some false
  is_str_Register : PySem.W.kitOne K (.type "str") (.ref C_Register) = some false
  is_str_Zero : PySem.W.kitOne K (.type "str") (.ref C_Zero) = some false
  is_str_Mix : PySem.W.kitOne K (.type "str") (.ref C_Mix) = some false
  is_tuple_Register : PySem.W.kitOne K (.type "tuple") (.ref C_Register) = some false
  is_tuple_Zero : PySem.W.kitOne K (.type "tuple") (.ref C_Zero) = some false
  is_tuple_Mix : PySem.W.kitOne K (.type "tuple") (.ref C_Mix) = some false
  nf_Zero_Zero : PySem.W.notFirst K C_Zero (.ref C_Zero) = true
  nf_Zero_Mix : PySem.W.notFirst K C_Zero (.ref C_Mix) = true
  nf_Mix_Mix : PySem.W.notFirst K C_Mix (.ref C_Mix) = true
  nf_Mix_Zero : PySem.W.notFirst K C_Mix (.ref C_Zero) = true
  nf_Mix_int : PySem.W.notFirst K C_Mix (.type "int") = true
  nf_Mix_str : PySem.W.notFirst K C_Mix (.type "str") = true
  nf_Mix_tuple : PySem.W.notFirst K C_Mix (.type "tuple") = true
  nf_Zero_int : PySem.W.notFirst K C_Zero (.type "int") = true
  C_BadSet : Addr
  I_BadSet : Addr
  x_BadSet : PySem.Dx.Txt P K mg "BadSet" "BadSet.__init__" "BadSet: " "name" C_BadSet I_BadSet
  C_BadEvidence : Addr
  I_BadEvidence : Addr
  x_BadEvidence : PySem.Dx.Txt P K mg "BadEvidence" "BadEvidence.__init__" "BadEvidence: " "name" C_BadEvidence I_BadEvidence
  C_BadLine : Addr
  I_BadLine : Addr
  x_BadLine : PySem.Dx.Txt P K mg "BadLine" "BadLine.__init__" "BadLine: " "place" C_BadLine I_BadLine
  te_BadSet_BadSet : PySem.W.exmOne K (.ref C_BadSet) (.ref C_BadSet) = some true
  te_BadSet_BadEvidence : PySem.W.exmOne K (.ref C_BadSet) (.ref C_BadEvidence) = some false
  te_BadSet_BadLine : PySem.W.exmOne K (.ref C_BadSet) (.ref C_BadLine) = some false
  te_BadSet_DeepError : PySem.W.exmOne K (.ref C_BadSet) (.ref C_DeepError) = some true
  xf_BadSet : XfC K C_BadSet
  xn_BadSet : PySem.W.findIn K (.ref C_BadSet) "name" = some none
  te_BadEvidence_BadSet : PySem.W.exmOne K (.ref C_BadEvidence) (.ref C_BadSet) = some false
  te_BadEvidence_BadEvidence : PySem.W.exmOne K (.ref C_BadEvidence) (.ref C_BadEvidence) = some true
  te_BadEvidence_BadLine : PySem.W.exmOne K (.ref C_BadEvidence) (.ref C_BadLine) = some false
  te_BadEvidence_DeepError : PySem.W.exmOne K (.ref C_BadEvidence) (.ref C_DeepError) = some true
  xf_BadEvidence : XfC K C_BadEvidence
  xn_BadEvidence : PySem.W.findIn K (.ref C_BadEvidence) "name" = some none
  te_BadLine_BadSet : PySem.W.exmOne K (.ref C_BadLine) (.ref C_BadSet) = some false
  te_BadLine_BadEvidence : PySem.W.exmOne K (.ref C_BadLine) (.ref C_BadEvidence) = some false
  te_BadLine_BadLine : PySem.W.exmOne K (.ref C_BadLine) (.ref C_BadLine) = some true
  te_BadLine_DeepError : PySem.W.exmOne K (.ref C_BadLine) (.ref C_DeepError) = some true
  xf_BadLine : XfC K C_BadLine
  xn_BadLine : PySem.W.findIn K (.ref C_BadLine) "place" = some none
  z_len : mg "len" = none
  z_min : mg "min" = none
  z_max : mg "max" = none
  z_int : mg "int" = none
  z_bool : mg "bool" = none
  z_list : mg "list" = none
  z_tuple : mg "tuple" = none
  z_isinstance : mg "isinstance" = none
  z_range : mg "range" = none
  z_zip : mg "zip" = none
  z_enumerate : mg "enumerate" = none
  t_MIXED_MOST : Tok
  c_MIXED_MOST : mg "MIXED_MOST" = some (.int 16 t_MIXED_MOST)
  t_PART_TOP : Tok
  c_PART_TOP : mg "PART_TOP" = some (.int 7 t_PART_TOP)
noncomputable def mkTop {P : Program} {K : PySem.W.Frag} {h : Heap} {mg : Str → Option Value} (X : K.In h) (G : h.Ns mainGlobals mg) (hmain : (P.main.scope.names.lookup ("super" : Str)).isSome = false) (hfile : ((P.main.file : Str) == "/claim/cut.py") = true)
    {oc_is_int kV_is_int dc_is_int pm_is_int cd_is_int ct_is_int : Value} {od_is_int an_is_int : Option Addr} {sl_is_int : Array (Option Value)} {f_is_int : Addr}
    {oc_evidence_number kV_evidence_number dc_evidence_number pm_evidence_number cd_evidence_number ct_evidence_number : Value} {od_evidence_number an_evidence_number : Option Addr} {sl_evidence_number : Array (Option Value)} {f_evidence_number : Addr}
    {oc_mixed_row kV_mixed_row dc_mixed_row pm_mixed_row cd_mixed_row ct_mixed_row : Value} {od_mixed_row an_mixed_row : Option Addr} {sl_mixed_row : Array (Option Value)} {f_mixed_row : Addr}
    {oc_register_of kV_register_of dc_register_of pm_register_of cd_register_of ct_register_of : Value} {od_register_of an_register_of : Option Addr} {sl_register_of : Array (Option Value)} {f_register_of : Addr}
    {oc_rows_told kV_rows_told dc_rows_told pm_rows_told cd_rows_told ct_rows_told : Value} {od_rows_told an_rows_told : Option Addr} {sl_rows_told : Array (Option Value)} {f_rows_told : Addr}
    {oc_clean_register kV_clean_register dc_clean_register pm_clean_register cd_clean_register ct_clean_register : Value} {od_clean_register an_clean_register : Option Addr} {sl_clean_register : Array (Option Value)} {f_clean_register : Addr}
    {oc__law_pool kV__law_pool dc__law_pool pm__law_pool cd__law_pool ct__law_pool : Value} {od__law_pool an__law_pool : Option Addr} {sl__law_pool : Array (Option Value)} {f__law_pool : Addr}
    {oc__law_next kV__law_next dc__law_next pm__law_next cd__law_next ct__law_next : Value} {od__law_next an__law_next : Option Addr} {sl__law_next : Array (Option Value)} {f__law_next : Addr}
    {oc__law_row kV__law_row dc__law_row pm__law_row cd__law_row ct__law_row : Value} {od__law_row an__law_row : Option Addr} {sl__law_row : Array (Option Value)} {f__law_row : Addr}
    {oc__law_number kV__law_number dc__law_number pm__law_number cd__law_number ct__law_number : Value} {od__law_number an__law_number : Option Addr} {sl__law_number : Array (Option Value)} {f__law_number : Addr}
    {oc__law_said kV__law_said dc__law_said pm__law_said cd__law_said ct__law_said : Value} {od__law_said an__law_said : Option Addr} {sl__law_said : Array (Option Value)} {f__law_said : Addr}
    {oc__law_is_register kV__law_is_register dc__law_is_register pm__law_is_register cd__law_is_register ct__law_is_register : Value} {od__law_is_register an__law_is_register : Option Addr} {sl__law_is_register : Array (Option Value)} {f__law_is_register : Addr}
    {oc__law_told kV__law_told dc__law_told pm__law_told cd__law_told ct__law_told : Value} {od__law_told an__law_told : Option Addr} {sl__law_told : Array (Option Value)} {f__law_told : Addr}
    {oc__law_built kV__law_built dc__law_built pm__law_built cd__law_built ct__law_built : Value} {od__law_built an__law_built : Option Addr} {sl__law_built : Array (Option Value)} {f__law_built : Addr}
    {oc__law_refused kV__law_refused dc__law_refused pm__law_refused cd__law_refused ct__law_refused : Value} {od__law_refused an__law_refused : Option Addr} {sl__law_refused : Array (Option Value)} {f__law_refused : Addr}
    {oc__law_unclean kV__law_unclean dc__law_unclean pm__law_unclean cd__law_unclean ct__law_unclean : Value} {od__law_unclean an__law_unclean : Option Addr} {sl__law_unclean : Array (Option Value)} {f__law_unclean : Addr}
    {oc__law_unmixed kV__law_unmixed dc__law_unmixed pm__law_unmixed cd__law_unmixed ct__law_unmixed : Value} {od__law_unmixed an__law_unmixed : Option Addr} {sl__law_unmixed : Array (Option Value)} {f__law_unmixed : Addr}
    {oc__law_errors kV__law_errors dc__law_errors pm__law_errors cd__law_errors ct__law_errors : Value} {od__law_errors an__law_errors : Option Addr} {sl__law_errors : Array (Option Value)} {f__law_errors : Addr}
    {oc__law_other kV__law_other dc__law_other pm__law_other cd__law_other ct__law_other : Value} {od__law_other an__law_other : Option Addr} {sl__law_other : Array (Option Value)} {f__law_other : Addr}
    {oc_law kV_law dc_law pm_law cd_law ct_law : Value} {od_law an_law : Option Addr} {sl_law : Array (Option Value)} {f_law : Addr}
    {C_DeepError : Addr}
    {C_Register : Addr}
    {C_Zero : Addr}
    {oc_Zero_eq kV_Zero_eq dc_Zero_eq pm_Zero_eq cd_Zero_eq ct_Zero_eq : Value} {od_Zero_eq an_Zero_eq : Option Addr} {sl_Zero_eq : Array (Option Value)} {f_Zero_eq : Addr}
    {C_Mix : Addr}
    {oc_Mix_init kV_Mix_init dc_Mix_init pm_Mix_init cd_Mix_init ct_Mix_init : Value} {od_Mix_init an_Mix_init : Option Addr} {sl_Mix_init : Array (Option Value)} {f_Mix_init : Addr}
    {oc_Mix_eq kV_Mix_eq dc_Mix_eq pm_Mix_eq cd_Mix_eq ct_Mix_eq : Value} {od_Mix_eq an_Mix_eq : Option Addr} {sl_Mix_eq : Array (Option Value)} {f_Mix_eq : Addr}
    {C_BadSet fI_BadSet cc_BadSet cda_BadSet : Addr} {oc_BadSet doc_BadSet pm_BadSet ct_BadSet cl_BadSet ccl_BadSet : Value} {od_BadSet an_BadSet cld_BadSet cdd_BadSet : Option Addr} {osl_BadSet csl_BadSet ccs_BadSet : Array (Option Value)} {vs_BadSet : Array Value} {tf_BadSet : Tok}
    {C_BadEvidence fI_BadEvidence cc_BadEvidence cda_BadEvidence : Addr} {oc_BadEvidence doc_BadEvidence pm_BadEvidence ct_BadEvidence cl_BadEvidence ccl_BadEvidence : Value} {od_BadEvidence an_BadEvidence cld_BadEvidence cdd_BadEvidence : Option Addr} {osl_BadEvidence csl_BadEvidence ccs_BadEvidence : Array (Option Value)} {vs_BadEvidence : Array Value} {tf_BadEvidence : Tok}
    {C_BadLine fI_BadLine cc_BadLine cda_BadLine : Addr} {oc_BadLine doc_BadLine pm_BadLine ct_BadLine cl_BadLine ccl_BadLine : Value} {od_BadLine an_BadLine cld_BadLine cdd_BadLine : Option Addr} {osl_BadLine csl_BadLine ccs_BadLine : Array (Option Value)} {vs_BadLine : Array Value} {tf_BadLine : Tok}
    {t_MIXED_MOST : Tok}
    {t_PART_TOP : Tok}
    (l_is_int : K.lookup f_is_int = some ⟨oc_is_int, od_is_int, .func (PySem.W.fnOf "is_int" "is_int" (defArgs s_is_int) (defBody s_is_int) (defScope s_is_int) .none kV_is_int dc_is_int pm_is_int an_is_int cd_is_int ct_is_int), sl_is_int⟩)
    (c_is_int : PySem.W.codeIn K cd_is_int "is_int" = true)
    (k_is_int : PySem.W.keepIn K (.ref f_is_int) = true)
    (a_is_int : PySem.W.nsIn K mainGlobals "is_int" = some (some (.ref f_is_int)))
    (l_evidence_number : K.lookup f_evidence_number = some ⟨oc_evidence_number, od_evidence_number, .func (PySem.W.fnOf "evidence_number" "evidence_number" (defArgs s_evidence_number) (defBody s_evidence_number) (defScope s_evidence_number) .none kV_evidence_number dc_evidence_number pm_evidence_number an_evidence_number cd_evidence_number ct_evidence_number), sl_evidence_number⟩)
    (c_evidence_number : PySem.W.codeIn K cd_evidence_number "evidence_number" = true)
    (k_evidence_number : PySem.W.keepIn K (.ref f_evidence_number) = true)
    (a_evidence_number : PySem.W.nsIn K mainGlobals "evidence_number" = some (some (.ref f_evidence_number)))
    (l_mixed_row : K.lookup f_mixed_row = some ⟨oc_mixed_row, od_mixed_row, .func (PySem.W.fnOf "mixed_row" "mixed_row" (defArgs s_mixed_row) (defBody s_mixed_row) (defScope s_mixed_row) .none kV_mixed_row dc_mixed_row pm_mixed_row an_mixed_row cd_mixed_row ct_mixed_row), sl_mixed_row⟩)
    (c_mixed_row : PySem.W.codeIn K cd_mixed_row "mixed_row" = true)
    (k_mixed_row : PySem.W.keepIn K (.ref f_mixed_row) = true)
    (a_mixed_row : PySem.W.nsIn K mainGlobals "mixed_row" = some (some (.ref f_mixed_row)))
    (l_register_of : K.lookup f_register_of = some ⟨oc_register_of, od_register_of, .func (PySem.W.fnOf "register_of" "register_of" (defArgs s_register_of) (defBody s_register_of) (defScope s_register_of) .none kV_register_of dc_register_of pm_register_of an_register_of cd_register_of ct_register_of), sl_register_of⟩)
    (c_register_of : PySem.W.codeIn K cd_register_of "register_of" = true)
    (k_register_of : PySem.W.keepIn K (.ref f_register_of) = true)
    (a_register_of : PySem.W.nsIn K mainGlobals "register_of" = some (some (.ref f_register_of)))
    (l_rows_told : K.lookup f_rows_told = some ⟨oc_rows_told, od_rows_told, .func (PySem.W.fnOf "rows_told" "rows_told" (defArgs s_rows_told) (defBody s_rows_told) (defScope s_rows_told) .none kV_rows_told dc_rows_told pm_rows_told an_rows_told cd_rows_told ct_rows_told), sl_rows_told⟩)
    (c_rows_told : PySem.W.codeIn K cd_rows_told "rows_told" = true)
    (k_rows_told : PySem.W.keepIn K (.ref f_rows_told) = true)
    (a_rows_told : PySem.W.nsIn K mainGlobals "rows_told" = some (some (.ref f_rows_told)))
    (l_clean_register : K.lookup f_clean_register = some ⟨oc_clean_register, od_clean_register, .func (PySem.W.fnOf "clean_register" "clean_register" (defArgs s_clean_register) (defBody s_clean_register) (defScope s_clean_register) .none kV_clean_register dc_clean_register pm_clean_register an_clean_register cd_clean_register ct_clean_register), sl_clean_register⟩)
    (c_clean_register : PySem.W.codeIn K cd_clean_register "clean_register" = true)
    (k_clean_register : PySem.W.keepIn K (.ref f_clean_register) = true)
    (a_clean_register : PySem.W.nsIn K mainGlobals "clean_register" = some (some (.ref f_clean_register)))
    (l__law_pool : K.lookup f__law_pool = some ⟨oc__law_pool, od__law_pool, .func (PySem.W.fnOf "_law_pool" "_law_pool" (defArgs s__law_pool) (defBody s__law_pool) (defScope s__law_pool) .none kV__law_pool dc__law_pool pm__law_pool an__law_pool cd__law_pool ct__law_pool), sl__law_pool⟩)
    (c__law_pool : PySem.W.codeIn K cd__law_pool "_law_pool" = true)
    (k__law_pool : PySem.W.keepIn K (.ref f__law_pool) = true)
    (a__law_pool : PySem.W.nsIn K mainGlobals "_law_pool" = some (some (.ref f__law_pool)))
    (l__law_next : K.lookup f__law_next = some ⟨oc__law_next, od__law_next, .func (PySem.W.fnOf "_law_next" "_law_next" (defArgs s__law_next) (defBody s__law_next) (defScope s__law_next) .none kV__law_next dc__law_next pm__law_next an__law_next cd__law_next ct__law_next), sl__law_next⟩)
    (c__law_next : PySem.W.codeIn K cd__law_next "_law_next" = true)
    (k__law_next : PySem.W.keepIn K (.ref f__law_next) = true)
    (a__law_next : PySem.W.nsIn K mainGlobals "_law_next" = some (some (.ref f__law_next)))
    (l__law_row : K.lookup f__law_row = some ⟨oc__law_row, od__law_row, .func (PySem.W.fnOf "_law_row" "_law_row" (defArgs s__law_row) (defBody s__law_row) (defScope s__law_row) .none kV__law_row dc__law_row pm__law_row an__law_row cd__law_row ct__law_row), sl__law_row⟩)
    (c__law_row : PySem.W.codeIn K cd__law_row "_law_row" = true)
    (k__law_row : PySem.W.keepIn K (.ref f__law_row) = true)
    (a__law_row : PySem.W.nsIn K mainGlobals "_law_row" = some (some (.ref f__law_row)))
    (l__law_number : K.lookup f__law_number = some ⟨oc__law_number, od__law_number, .func (PySem.W.fnOf "_law_number" "_law_number" (defArgs s__law_number) (defBody s__law_number) (defScope s__law_number) .none kV__law_number dc__law_number pm__law_number an__law_number cd__law_number ct__law_number), sl__law_number⟩)
    (c__law_number : PySem.W.codeIn K cd__law_number "_law_number" = true)
    (k__law_number : PySem.W.keepIn K (.ref f__law_number) = true)
    (a__law_number : PySem.W.nsIn K mainGlobals "_law_number" = some (some (.ref f__law_number)))
    (l__law_said : K.lookup f__law_said = some ⟨oc__law_said, od__law_said, .func (PySem.W.fnOf "_law_said" "_law_said" (defArgs s__law_said) (defBody s__law_said) (defScope s__law_said) .none kV__law_said dc__law_said pm__law_said an__law_said cd__law_said ct__law_said), sl__law_said⟩)
    (c__law_said : PySem.W.codeIn K cd__law_said "_law_said" = true)
    (k__law_said : PySem.W.keepIn K (.ref f__law_said) = true)
    (a__law_said : PySem.W.nsIn K mainGlobals "_law_said" = some (some (.ref f__law_said)))
    (l__law_is_register : K.lookup f__law_is_register = some ⟨oc__law_is_register, od__law_is_register, .func (PySem.W.fnOf "_law_is_register" "_law_is_register" (defArgs s__law_is_register) (defBody s__law_is_register) (defScope s__law_is_register) .none kV__law_is_register dc__law_is_register pm__law_is_register an__law_is_register cd__law_is_register ct__law_is_register), sl__law_is_register⟩)
    (c__law_is_register : PySem.W.codeIn K cd__law_is_register "_law_is_register" = true)
    (k__law_is_register : PySem.W.keepIn K (.ref f__law_is_register) = true)
    (a__law_is_register : PySem.W.nsIn K mainGlobals "_law_is_register" = some (some (.ref f__law_is_register)))
    (l__law_told : K.lookup f__law_told = some ⟨oc__law_told, od__law_told, .func (PySem.W.fnOf "_law_told" "_law_told" (defArgs s__law_told) (defBody s__law_told) (defScope s__law_told) .none kV__law_told dc__law_told pm__law_told an__law_told cd__law_told ct__law_told), sl__law_told⟩)
    (c__law_told : PySem.W.codeIn K cd__law_told "_law_told" = true)
    (k__law_told : PySem.W.keepIn K (.ref f__law_told) = true)
    (a__law_told : PySem.W.nsIn K mainGlobals "_law_told" = some (some (.ref f__law_told)))
    (l__law_built : K.lookup f__law_built = some ⟨oc__law_built, od__law_built, .func (PySem.W.fnOf "_law_built" "_law_built" (defArgs s__law_built) (defBody s__law_built) (defScope s__law_built) .none kV__law_built dc__law_built pm__law_built an__law_built cd__law_built ct__law_built), sl__law_built⟩)
    (c__law_built : PySem.W.codeIn K cd__law_built "_law_built" = true)
    (k__law_built : PySem.W.keepIn K (.ref f__law_built) = true)
    (a__law_built : PySem.W.nsIn K mainGlobals "_law_built" = some (some (.ref f__law_built)))
    (l__law_refused : K.lookup f__law_refused = some ⟨oc__law_refused, od__law_refused, .func (PySem.W.fnOf "_law_refused" "_law_refused" (defArgs s__law_refused) (defBody s__law_refused) (defScope s__law_refused) .none kV__law_refused dc__law_refused pm__law_refused an__law_refused cd__law_refused ct__law_refused), sl__law_refused⟩)
    (c__law_refused : PySem.W.codeIn K cd__law_refused "_law_refused" = true)
    (k__law_refused : PySem.W.keepIn K (.ref f__law_refused) = true)
    (a__law_refused : PySem.W.nsIn K mainGlobals "_law_refused" = some (some (.ref f__law_refused)))
    (l__law_unclean : K.lookup f__law_unclean = some ⟨oc__law_unclean, od__law_unclean, .func (PySem.W.fnOf "_law_unclean" "_law_unclean" (defArgs s__law_unclean) (defBody s__law_unclean) (defScope s__law_unclean) .none kV__law_unclean dc__law_unclean pm__law_unclean an__law_unclean cd__law_unclean ct__law_unclean), sl__law_unclean⟩)
    (c__law_unclean : PySem.W.codeIn K cd__law_unclean "_law_unclean" = true)
    (k__law_unclean : PySem.W.keepIn K (.ref f__law_unclean) = true)
    (a__law_unclean : PySem.W.nsIn K mainGlobals "_law_unclean" = some (some (.ref f__law_unclean)))
    (l__law_unmixed : K.lookup f__law_unmixed = some ⟨oc__law_unmixed, od__law_unmixed, .func (PySem.W.fnOf "_law_unmixed" "_law_unmixed" (defArgs s__law_unmixed) (defBody s__law_unmixed) (defScope s__law_unmixed) .none kV__law_unmixed dc__law_unmixed pm__law_unmixed an__law_unmixed cd__law_unmixed ct__law_unmixed), sl__law_unmixed⟩)
    (c__law_unmixed : PySem.W.codeIn K cd__law_unmixed "_law_unmixed" = true)
    (k__law_unmixed : PySem.W.keepIn K (.ref f__law_unmixed) = true)
    (a__law_unmixed : PySem.W.nsIn K mainGlobals "_law_unmixed" = some (some (.ref f__law_unmixed)))
    (l__law_errors : K.lookup f__law_errors = some ⟨oc__law_errors, od__law_errors, .func (PySem.W.fnOf "_law_errors" "_law_errors" (defArgs s__law_errors) (defBody s__law_errors) (defScope s__law_errors) .none kV__law_errors dc__law_errors pm__law_errors an__law_errors cd__law_errors ct__law_errors), sl__law_errors⟩)
    (c__law_errors : PySem.W.codeIn K cd__law_errors "_law_errors" = true)
    (k__law_errors : PySem.W.keepIn K (.ref f__law_errors) = true)
    (a__law_errors : PySem.W.nsIn K mainGlobals "_law_errors" = some (some (.ref f__law_errors)))
    (l__law_other : K.lookup f__law_other = some ⟨oc__law_other, od__law_other, .func (PySem.W.fnOf "_law_other" "_law_other" (defArgs s__law_other) (defBody s__law_other) (defScope s__law_other) .none kV__law_other dc__law_other pm__law_other an__law_other cd__law_other ct__law_other), sl__law_other⟩)
    (c__law_other : PySem.W.codeIn K cd__law_other "_law_other" = true)
    (k__law_other : PySem.W.keepIn K (.ref f__law_other) = true)
    (a__law_other : PySem.W.nsIn K mainGlobals "_law_other" = some (some (.ref f__law_other)))
    (l_law : K.lookup f_law = some ⟨oc_law, od_law, .func (PySem.W.fnOf "law" "law" (defArgs s_law) (defBody s_law) (defScope s_law) .none kV_law dc_law pm_law an_law cd_law ct_law), sl_law⟩)
    (c_law : PySem.W.codeIn K cd_law "law" = true)
    (k_law : PySem.W.keepIn K (.ref f_law) = true)
    (a_law : PySem.W.nsIn K mainGlobals "law" = some (some (.ref f_law)))
    (a_DeepError : PySem.W.nsIn K mainGlobals "DeepError" = some (some (.ref C_DeepError)))
    (a_Register : PySem.W.nsIn K mainGlobals "Register" = some (some (.ref C_Register)))
    (pg_Register : PySem.W.plainGet K C_Register Str.empty = true)
    (hd_Register : PySem.W.hasDictIn K C_Register = true)
    (po_Register : PySem.W.plainOver K C_Register = true)
    (sa_Register : PySem.W.findIn K (.ref C_Register) "__setattr__" = some (some (.builtin "object.__setattr__")))
    (ic_Register : PySem.W.findIn K (.ref C_Register) "__class__" = some (some (.builtin "object.__class__")))
    (io_Register : PySem.W.mroIn K C_Register (.type "object") = some true)
    (mk_Register : PySem.W.makesIn K C_Register = true)
    (kc_Register : PySem.W.keepIn K (.ref C_Register) = true)
    (in_Register : PySem.W.findIn K (.ref C_Register) "__init__" = some (some (.builtin "object.__init__")))
    (a_Zero : PySem.W.nsIn K mainGlobals "Zero" = some (some (.ref C_Zero)))
    (pg_Zero : PySem.W.plainGet K C_Zero Str.empty = true)
    (hd_Zero : PySem.W.hasDictIn K C_Zero = true)
    (po_Zero : PySem.W.plainOver K C_Zero = true)
    (sa_Zero : PySem.W.findIn K (.ref C_Zero) "__setattr__" = some (some (.builtin "object.__setattr__")))
    (ic_Zero : PySem.W.findIn K (.ref C_Zero) "__class__" = some (some (.builtin "object.__class__")))
    (io_Zero : PySem.W.mroIn K C_Zero (.type "object") = some true)
    (mk_Zero : PySem.W.makesIn K C_Zero = true)
    (kc_Zero : PySem.W.keepIn K (.ref C_Zero) = true)
    (l_Zero_eq : K.lookup f_Zero_eq = some ⟨oc_Zero_eq, od_Zero_eq, .func (PySem.W.fnOf "__eq__" "Zero.__eq__" (defArgs s_Zero_eq) (defBody s_Zero_eq) (defScope s_Zero_eq) .none kV_Zero_eq dc_Zero_eq pm_Zero_eq an_Zero_eq cd_Zero_eq ct_Zero_eq), sl_Zero_eq⟩)
    (c_Zero_eq : PySem.W.codeIn K cd_Zero_eq "Zero.__eq__" = true)
    (k_Zero_eq : PySem.W.keepIn K (.ref f_Zero_eq) = true)
    (fi_Zero_eq : PySem.W.findIn K (.ref C_Zero) "__eq__" = some (some (.ref f_Zero_eq)))
    (fn_Zero_eq : PySem.W.isFn K (.ref f_Zero_eq) = true)
    (in_Zero : PySem.W.findIn K (.ref C_Zero) "__init__" = some (some (.builtin "object.__init__")))
    (a_Mix : PySem.W.nsIn K mainGlobals "Mix" = some (some (.ref C_Mix)))
    (pg_Mix : PySem.W.plainGet K C_Mix Str.empty = true)
    (hd_Mix : PySem.W.hasDictIn K C_Mix = true)
    (po_Mix : PySem.W.plainOver K C_Mix = true)
    (sa_Mix : PySem.W.findIn K (.ref C_Mix) "__setattr__" = some (some (.builtin "object.__setattr__")))
    (ic_Mix : PySem.W.findIn K (.ref C_Mix) "__class__" = some (some (.builtin "object.__class__")))
    (io_Mix : PySem.W.mroIn K C_Mix (.type "object") = some true)
    (mk_Mix : PySem.W.makesIn K C_Mix = true)
    (kc_Mix : PySem.W.keepIn K (.ref C_Mix) = true)
    (l_Mix_init : K.lookup f_Mix_init = some ⟨oc_Mix_init, od_Mix_init, .func (PySem.W.fnOf "__init__" "Mix.__init__" (defArgs s_Mix_init) (defBody s_Mix_init) (defScope s_Mix_init) .none kV_Mix_init dc_Mix_init pm_Mix_init an_Mix_init cd_Mix_init ct_Mix_init), sl_Mix_init⟩)
    (c_Mix_init : PySem.W.codeIn K cd_Mix_init "Mix.__init__" = true)
    (k_Mix_init : PySem.W.keepIn K (.ref f_Mix_init) = true)
    (fi_Mix_init : PySem.W.findIn K (.ref C_Mix) "__init__" = some (some (.ref f_Mix_init)))
    (fn_Mix_init : PySem.W.isFn K (.ref f_Mix_init) = true)
    (l_Mix_eq : K.lookup f_Mix_eq = some ⟨oc_Mix_eq, od_Mix_eq, .func (PySem.W.fnOf "__eq__" "Mix.__eq__" (defArgs s_Mix_eq) (defBody s_Mix_eq) (defScope s_Mix_eq) .none kV_Mix_eq dc_Mix_eq pm_Mix_eq an_Mix_eq cd_Mix_eq ct_Mix_eq), sl_Mix_eq⟩)
    (c_Mix_eq : PySem.W.codeIn K cd_Mix_eq "Mix.__eq__" = true)
    (k_Mix_eq : PySem.W.keepIn K (.ref f_Mix_eq) = true)
    (fi_Mix_eq : PySem.W.findIn K (.ref C_Mix) "__eq__" = some (some (.ref f_Mix_eq)))
    (fn_Mix_eq : PySem.W.isFn K (.ref f_Mix_eq) = true)
    (n_Mix_inner : PySem.W.findIn K (.ref C_Mix) "inner" = some none)
    (n_Mix_measurer : PySem.W.findIn K (.ref C_Mix) "measurer" = some none)
    (n_Mix_target : PySem.W.findIn K (.ref C_Mix) "target" = some none)
    (n_Mix_good : PySem.W.findIn K (.ref C_Mix) "good" = some none)
    (cg : PySem.W.specialIn K (.builtin "object.__class__") "__get__" = some (some (.builtin "getset_descriptor.__get__")))
    (ct : PySem.W.takesIn K (.builtin "object.__class__") = some true)
    (is_Zero_Register : PySem.W.kitOne K (.ref C_Zero) (.ref C_Register) = some true)
    (is_Zero_Zero : PySem.W.kitOne K (.ref C_Zero) (.ref C_Zero) = some true)
    (is_Zero_Mix : PySem.W.kitOne K (.ref C_Zero) (.ref C_Mix) = some false)
    (is_Mix_Register : PySem.W.kitOne K (.ref C_Mix) (.ref C_Register) = some true)
    (is_Mix_Zero : PySem.W.kitOne K (.ref C_Mix) (.ref C_Zero) = some false)
    (is_Mix_Mix : PySem.W.kitOne K (.ref C_Mix) (.ref C_Mix) = some true)
    (is_NoneType_Register : PySem.W.kitOne K (.type "NoneType") (.ref C_Register) = some false)
    (is_NoneType_Zero : PySem.W.kitOne K (.type "NoneType") (.ref C_Zero) = some false)
    (is_NoneType_Mix : PySem.W.kitOne K (.type "NoneType") (.ref C_Mix) = some false)
    (is_int_Register : PySem.W.kitOne K (.type "int") (.ref C_Register) = some false)
    (is_int_Zero : PySem.W.kitOne K (.type "int") (.ref C_Zero) = some false)
    (is_int_Mix : PySem.W.kitOne K (.type "int") (.ref C_Mix) = some false)
    (is_str_Register : PySem.W.kitOne K (.type "str") (.ref C_Register) = some false)
    (is_str_Zero : PySem.W.kitOne K (.type "str") (.ref C_Zero) = some false)
    (is_str_Mix : PySem.W.kitOne K (.type "str") (.ref C_Mix) = some false)
    (is_tuple_Register : PySem.W.kitOne K (.type "tuple") (.ref C_Register) = some false)
    (is_tuple_Zero : PySem.W.kitOne K (.type "tuple") (.ref C_Zero) = some false)
    (is_tuple_Mix : PySem.W.kitOne K (.type "tuple") (.ref C_Mix) = some false)
    (nf_Zero_Zero : PySem.W.notFirst K C_Zero (.ref C_Zero) = true)
    (nf_Zero_Mix : PySem.W.notFirst K C_Zero (.ref C_Mix) = true)
    (nf_Mix_Mix : PySem.W.notFirst K C_Mix (.ref C_Mix) = true)
    (nf_Mix_Zero : PySem.W.notFirst K C_Mix (.ref C_Zero) = true)
    (nf_Mix_int : PySem.W.notFirst K C_Mix (.type "int") = true)
    (nf_Mix_str : PySem.W.notFirst K C_Mix (.type "str") = true)
    (nf_Mix_tuple : PySem.W.notFirst K C_Mix (.type "tuple") = true)
    (nf_Zero_int : PySem.W.notFirst K C_Zero (.type "int") = true)
    (a_BadSet : PySem.W.nsIn K mainGlobals "BadSet" = some (some (.ref C_BadSet)))
    (qi_BadSet : PySem.W.excInitIn K C_BadSet PySem.Dx.tail3 "Exception.__new__" = true)
    (ov_BadSet : PySem.W.excOver K C_BadSet PySem.Dx.tail3 = true)
    (tkr_BadSet : PySem.W.takerIn K C_BadSet "name" = some none)
    (sa_BadSet : PySem.W.findIn K (.ref C_BadSet) "__setattr__" = some (some (.builtin "object.__setattr__")))
    (ga_BadSet : PySem.W.findIn K (.ref C_BadSet) "__getattribute__" = some (some (.builtin "BaseException.__getattribute__")))
    (gg_BadSet : PySem.W.findIn K (.ref C_BadSet) "__getattr__" = some none)
    (no_BadSet : PySem.W.findIn K (.ref C_BadSet) "name" = some none)
    (iC_BadSet : PySem.W.findIn K (.ref C_BadSet) "__init__" = some (some (.ref fI_BadSet)))
    (tI_BadSet : PySem.W.typeIn K (.ref fI_BadSet) = some (.type "function"))
    (kC_BadSet : PySem.W.keepIn K (.ref C_BadSet) = true)
    (eC_BadSet : PySem.W.subIn K (.ref C_BadSet) (.type "BaseException") = some true)
    (sE_BadSet : PySem.W.subIn K (.ref C_BadSet) (.type "Exception") = some true)
    (ty_BadSet : PySem.W.typeIn K (.ref C_BadSet) = some (.type "type"))
    (hd_BadSet : PySem.W.hasDictIn K C_BadSet = true)
    (mC_BadSet : PySem.W.mroIn K C_BadSet (.ref C_BadSet) = some true)
    (cC_BadSet : PySem.W.isClsIn K C_BadSet = true)
    (sup_BadSet : PySem.W.ks_superIn K C_BadSet C_BadSet "__init__" = some (some (.builtin "Exception.__init__")))
    (fn_BadSet : K.lookup fI_BadSet = some ⟨oc_BadSet, od_BadSet, .func (PySem.W.ksFn "__init__" "BadSet.__init__" (PySem.Dx.sArgs "name" ⟨6, 17, 6, 21⟩ ⟨6, 23, 6, 27⟩) (PySem.Dx.sBody "BadSet: " "name" q_BadSet) (PySem.Dx.sScope "name") .none .none doc_BadSet pm_BadSet an_BadSet (.ref cda_BadSet) ct_BadSet cc_BadSet), osl_BadSet⟩)
    (cd_BadSet : PySem.W.codeIn K (.ref cda_BadSet) "BadSet.__init__" = true)
    (cc_BadSet : K.lookup cc_BadSet = some ⟨cl_BadSet, cld_BadSet, .cell (some (.ref C_BadSet)), csl_BadSet⟩)
    (ca_BadSet : K.lookup cda_BadSet = some ⟨ccl_BadSet, cdd_BadSet, .fields vs_BadSet, ccs_BadSet⟩)
    (vs_BadSet : vs_BadSet[2]? = some (.str "/claim/cut.py" tf_BadSet))
    (a_BadEvidence : PySem.W.nsIn K mainGlobals "BadEvidence" = some (some (.ref C_BadEvidence)))
    (qi_BadEvidence : PySem.W.excInitIn K C_BadEvidence PySem.Dx.tail3 "Exception.__new__" = true)
    (ov_BadEvidence : PySem.W.excOver K C_BadEvidence PySem.Dx.tail3 = true)
    (tkr_BadEvidence : PySem.W.takerIn K C_BadEvidence "name" = some none)
    (sa_BadEvidence : PySem.W.findIn K (.ref C_BadEvidence) "__setattr__" = some (some (.builtin "object.__setattr__")))
    (ga_BadEvidence : PySem.W.findIn K (.ref C_BadEvidence) "__getattribute__" = some (some (.builtin "BaseException.__getattribute__")))
    (gg_BadEvidence : PySem.W.findIn K (.ref C_BadEvidence) "__getattr__" = some none)
    (no_BadEvidence : PySem.W.findIn K (.ref C_BadEvidence) "name" = some none)
    (iC_BadEvidence : PySem.W.findIn K (.ref C_BadEvidence) "__init__" = some (some (.ref fI_BadEvidence)))
    (tI_BadEvidence : PySem.W.typeIn K (.ref fI_BadEvidence) = some (.type "function"))
    (kC_BadEvidence : PySem.W.keepIn K (.ref C_BadEvidence) = true)
    (eC_BadEvidence : PySem.W.subIn K (.ref C_BadEvidence) (.type "BaseException") = some true)
    (sE_BadEvidence : PySem.W.subIn K (.ref C_BadEvidence) (.type "Exception") = some true)
    (ty_BadEvidence : PySem.W.typeIn K (.ref C_BadEvidence) = some (.type "type"))
    (hd_BadEvidence : PySem.W.hasDictIn K C_BadEvidence = true)
    (mC_BadEvidence : PySem.W.mroIn K C_BadEvidence (.ref C_BadEvidence) = some true)
    (cC_BadEvidence : PySem.W.isClsIn K C_BadEvidence = true)
    (sup_BadEvidence : PySem.W.ks_superIn K C_BadEvidence C_BadEvidence "__init__" = some (some (.builtin "Exception.__init__")))
    (fn_BadEvidence : K.lookup fI_BadEvidence = some ⟨oc_BadEvidence, od_BadEvidence, .func (PySem.W.ksFn "__init__" "BadEvidence.__init__" (PySem.Dx.sArgs "name" ⟨11, 17, 11, 21⟩ ⟨11, 23, 11, 27⟩) (PySem.Dx.sBody "BadEvidence: " "name" q_BadEvidence) (PySem.Dx.sScope "name") .none .none doc_BadEvidence pm_BadEvidence an_BadEvidence (.ref cda_BadEvidence) ct_BadEvidence cc_BadEvidence), osl_BadEvidence⟩)
    (cd_BadEvidence : PySem.W.codeIn K (.ref cda_BadEvidence) "BadEvidence.__init__" = true)
    (cc_BadEvidence : K.lookup cc_BadEvidence = some ⟨cl_BadEvidence, cld_BadEvidence, .cell (some (.ref C_BadEvidence)), csl_BadEvidence⟩)
    (ca_BadEvidence : K.lookup cda_BadEvidence = some ⟨ccl_BadEvidence, cdd_BadEvidence, .fields vs_BadEvidence, ccs_BadEvidence⟩)
    (vs_BadEvidence : vs_BadEvidence[2]? = some (.str "/claim/cut.py" tf_BadEvidence))
    (a_BadLine : PySem.W.nsIn K mainGlobals "BadLine" = some (some (.ref C_BadLine)))
    (qi_BadLine : PySem.W.excInitIn K C_BadLine PySem.Dx.tail3 "Exception.__new__" = true)
    (ov_BadLine : PySem.W.excOver K C_BadLine PySem.Dx.tail3 = true)
    (tkr_BadLine : PySem.W.takerIn K C_BadLine "place" = some none)
    (sa_BadLine : PySem.W.findIn K (.ref C_BadLine) "__setattr__" = some (some (.builtin "object.__setattr__")))
    (ga_BadLine : PySem.W.findIn K (.ref C_BadLine) "__getattribute__" = some (some (.builtin "BaseException.__getattribute__")))
    (gg_BadLine : PySem.W.findIn K (.ref C_BadLine) "__getattr__" = some none)
    (no_BadLine : PySem.W.findIn K (.ref C_BadLine) "place" = some none)
    (iC_BadLine : PySem.W.findIn K (.ref C_BadLine) "__init__" = some (some (.ref fI_BadLine)))
    (tI_BadLine : PySem.W.typeIn K (.ref fI_BadLine) = some (.type "function"))
    (kC_BadLine : PySem.W.keepIn K (.ref C_BadLine) = true)
    (eC_BadLine : PySem.W.subIn K (.ref C_BadLine) (.type "BaseException") = some true)
    (sE_BadLine : PySem.W.subIn K (.ref C_BadLine) (.type "Exception") = some true)
    (ty_BadLine : PySem.W.typeIn K (.ref C_BadLine) = some (.type "type"))
    (hd_BadLine : PySem.W.hasDictIn K C_BadLine = true)
    (mC_BadLine : PySem.W.mroIn K C_BadLine (.ref C_BadLine) = some true)
    (cC_BadLine : PySem.W.isClsIn K C_BadLine = true)
    (sup_BadLine : PySem.W.ks_superIn K C_BadLine C_BadLine "__init__" = some (some (.builtin "Exception.__init__")))
    (fn_BadLine : K.lookup fI_BadLine = some ⟨oc_BadLine, od_BadLine, .func (PySem.W.ksFn "__init__" "BadLine.__init__" (PySem.Dx.sArgs "place" ⟨16, 17, 16, 21⟩ ⟨16, 23, 16, 28⟩) (PySem.Dx.sBody "BadLine: " "place" q_BadLine) (PySem.Dx.sScope "place") .none .none doc_BadLine pm_BadLine an_BadLine (.ref cda_BadLine) ct_BadLine cc_BadLine), osl_BadLine⟩)
    (cd_BadLine : PySem.W.codeIn K (.ref cda_BadLine) "BadLine.__init__" = true)
    (cc_BadLine : K.lookup cc_BadLine = some ⟨cl_BadLine, cld_BadLine, .cell (some (.ref C_BadLine)), csl_BadLine⟩)
    (ca_BadLine : K.lookup cda_BadLine = some ⟨ccl_BadLine, cdd_BadLine, .fields vs_BadLine, ccs_BadLine⟩)
    (vs_BadLine : vs_BadLine[2]? = some (.str "/claim/cut.py" tf_BadLine))
    (eC_DeepError : PySem.W.subIn K (.ref C_DeepError) (.type "BaseException") = some true)
    (ty_DeepError : PySem.W.typeIn K (.ref C_DeepError) = some (.type "type"))
    (cC_DeepError : PySem.W.isClsIn K C_DeepError = true)
    (sub_BadSet_BadSet : PySem.W.subIn K (.ref C_BadSet) (.ref C_BadSet) = some true)
    (sub_BadSet_BadEvidence : PySem.W.subIn K (.ref C_BadSet) (.ref C_BadEvidence) = some false)
    (sub_BadSet_BadLine : PySem.W.subIn K (.ref C_BadSet) (.ref C_BadLine) = some false)
    (sub_BadSet_DeepError : PySem.W.subIn K (.ref C_BadSet) (.ref C_DeepError) = some true)
    (sub_BadEvidence_BadSet : PySem.W.subIn K (.ref C_BadEvidence) (.ref C_BadSet) = some false)
    (sub_BadEvidence_BadEvidence : PySem.W.subIn K (.ref C_BadEvidence) (.ref C_BadEvidence) = some true)
    (sub_BadEvidence_BadLine : PySem.W.subIn K (.ref C_BadEvidence) (.ref C_BadLine) = some false)
    (sub_BadEvidence_DeepError : PySem.W.subIn K (.ref C_BadEvidence) (.ref C_DeepError) = some true)
    (sub_BadLine_BadSet : PySem.W.subIn K (.ref C_BadLine) (.ref C_BadSet) = some false)
    (sub_BadLine_BadEvidence : PySem.W.subIn K (.ref C_BadLine) (.ref C_BadEvidence) = some false)
    (sub_BadLine_BadLine : PySem.W.subIn K (.ref C_BadLine) (.ref C_BadLine) = some true)
    (sub_BadLine_DeepError : PySem.W.subIn K (.ref C_BadLine) (.ref C_DeepError) = some true)
    (opq : PySem.W.nsIn K PySem.cStatics "thirdparty.any" = some none)
    (z_len : PySem.W.nsIn K mainGlobals "len" = some none)
    (z_min : PySem.W.nsIn K mainGlobals "min" = some none)
    (z_max : PySem.W.nsIn K mainGlobals "max" = some none)
    (z_int : PySem.W.nsIn K mainGlobals "int" = some none)
    (z_bool : PySem.W.nsIn K mainGlobals "bool" = some none)
    (z_list : PySem.W.nsIn K mainGlobals "list" = some none)
    (z_tuple : PySem.W.nsIn K mainGlobals "tuple" = some none)
    (z_isinstance : PySem.W.nsIn K mainGlobals "isinstance" = some none)
    (z_range : PySem.W.nsIn K mainGlobals "range" = some none)
    (z_zip : PySem.W.nsIn K mainGlobals "zip" = some none)
    (z_enumerate : PySem.W.nsIn K mainGlobals "enumerate" = some none)
    (z_super : PySem.W.nsIn K mainGlobals "super" = some none)
    (c_MIXED_MOST : PySem.W.nsIn K mainGlobals "MIXED_MOST" = some (some (.int 16 t_MIXED_MOST)))
    (c_PART_TOP : PySem.W.nsIn K mainGlobals "PART_TOP" = some (some (.int 7 t_PART_TOP)))
    : Top P K mg where
  a_is_int := f_is_int
  d_is_int := PySem.W.fnOf "is_int" "is_int" (defArgs s_is_int) (defBody s_is_int) (defScope s_is_int) .none kV_is_int dc_is_int pm_is_int an_is_int cd_is_int ct_is_int
  F_is_int := fun_mk (st := s_is_int) l_is_int c_is_int k_is_int
  b_is_int := (fun_mk (st := s_is_int) l_is_int c_is_int k_is_int).binds (ps := ["value"]) fun _ _ _ _ _ _ us hl => match us, hl with | [_], _ => rfl
  m_is_int := PySem.W.mg_of X G a_is_int
  a_evidence_number := f_evidence_number
  d_evidence_number := PySem.W.fnOf "evidence_number" "evidence_number" (defArgs s_evidence_number) (defBody s_evidence_number) (defScope s_evidence_number) .none kV_evidence_number dc_evidence_number pm_evidence_number an_evidence_number cd_evidence_number ct_evidence_number
  F_evidence_number := fun_mk (st := s_evidence_number) l_evidence_number c_evidence_number k_evidence_number
  b_evidence_number := (fun_mk (st := s_evidence_number) l_evidence_number c_evidence_number k_evidence_number).binds (ps := ["value", "last", "name"]) fun _ _ _ _ _ _ us hl => match us, hl with | [_, _, _], _ => rfl
  m_evidence_number := PySem.W.mg_of X G a_evidence_number
  a_mixed_row := f_mixed_row
  d_mixed_row := PySem.W.fnOf "mixed_row" "mixed_row" (defArgs s_mixed_row) (defBody s_mixed_row) (defScope s_mixed_row) .none kV_mixed_row dc_mixed_row pm_mixed_row an_mixed_row cd_mixed_row ct_mixed_row
  F_mixed_row := fun_mk (st := s_mixed_row) l_mixed_row c_mixed_row k_mixed_row
  b_mixed_row := (fun_mk (st := s_mixed_row) l_mixed_row c_mixed_row k_mixed_row).binds (ps := ["looks"]) fun _ _ _ _ _ _ us hl => match us, hl with | [_], _ => rfl
  m_mixed_row := PySem.W.mg_of X G a_mixed_row
  a_register_of := f_register_of
  d_register_of := PySem.W.fnOf "register_of" "register_of" (defArgs s_register_of) (defBody s_register_of) (defScope s_register_of) .none kV_register_of dc_register_of pm_register_of an_register_of cd_register_of ct_register_of
  F_register_of := fun_mk (st := s_register_of) l_register_of c_register_of k_register_of
  b_register_of := (fun_mk (st := s_register_of) l_register_of c_register_of k_register_of).binds (ps := ["looks", "words"]) fun _ _ _ _ _ _ us hl => match us, hl with | [_, _], _ => rfl
  m_register_of := PySem.W.mg_of X G a_register_of
  a_rows_told := f_rows_told
  d_rows_told := PySem.W.fnOf "rows_told" "rows_told" (defArgs s_rows_told) (defBody s_rows_told) (defScope s_rows_told) .none kV_rows_told dc_rows_told pm_rows_told an_rows_told cd_rows_told ct_rows_told
  F_rows_told := fun_mk (st := s_rows_told) l_rows_told c_rows_told k_rows_told
  b_rows_told := (fun_mk (st := s_rows_told) l_rows_told c_rows_told k_rows_told).binds (ps := ["register"]) fun _ _ _ _ _ _ us hl => match us, hl with | [_], _ => rfl
  m_rows_told := PySem.W.mg_of X G a_rows_told
  a_clean_register := f_clean_register
  d_clean_register := PySem.W.fnOf "clean_register" "clean_register" (defArgs s_clean_register) (defBody s_clean_register) (defScope s_clean_register) .none kV_clean_register dc_clean_register pm_clean_register an_clean_register cd_clean_register ct_clean_register
  F_clean_register := fun_mk (st := s_clean_register) l_clean_register c_clean_register k_clean_register
  b_clean_register := (fun_mk (st := s_clean_register) l_clean_register c_clean_register k_clean_register).binds (ps := ["looks"]) fun _ _ _ _ _ _ us hl => match us, hl with | [_], _ => rfl
  m_clean_register := PySem.W.mg_of X G a_clean_register
  a__law_pool := f__law_pool
  d__law_pool := PySem.W.fnOf "_law_pool" "_law_pool" (defArgs s__law_pool) (defBody s__law_pool) (defScope s__law_pool) .none kV__law_pool dc__law_pool pm__law_pool an__law_pool cd__law_pool ct__law_pool
  F__law_pool := fun_mk (st := s__law_pool) l__law_pool c__law_pool k__law_pool
  b__law_pool := (fun_mk (st := s__law_pool) l__law_pool c__law_pool k__law_pool).binds (ps := ["script"]) fun _ _ _ _ _ _ us hl => match us, hl with | [_], _ => rfl
  m__law_pool := PySem.W.mg_of X G a__law_pool
  a__law_next := f__law_next
  d__law_next := PySem.W.fnOf "_law_next" "_law_next" (defArgs s__law_next) (defBody s__law_next) (defScope s__law_next) .none kV__law_next dc__law_next pm__law_next an__law_next cd__law_next ct__law_next
  F__law_next := fun_mk (st := s__law_next) l__law_next c__law_next k__law_next
  b__law_next := (fun_mk (st := s__law_next) l__law_next c__law_next k__law_next).binds (ps := ["pool", "many"]) fun _ _ _ _ _ _ us hl => match us, hl with | [_, _], _ => rfl
  m__law_next := PySem.W.mg_of X G a__law_next
  a__law_row := f__law_row
  d__law_row := PySem.W.fnOf "_law_row" "_law_row" (defArgs s__law_row) (defBody s__law_row) (defScope s__law_row) .none kV__law_row dc__law_row pm__law_row an__law_row cd__law_row ct__law_row
  F__law_row := fun_mk (st := s__law_row) l__law_row c__law_row k__law_row
  b__law_row := (fun_mk (st := s__law_row) l__law_row c__law_row k__law_row).binds (ps := ["pool", "size"]) fun _ _ _ _ _ _ us hl => match us, hl with | [_, _], _ => rfl
  m__law_row := PySem.W.mg_of X G a__law_row
  a__law_number := f__law_number
  d__law_number := PySem.W.fnOf "_law_number" "_law_number" (defArgs s__law_number) (defBody s__law_number) (defScope s__law_number) .none kV__law_number dc__law_number pm__law_number an__law_number cd__law_number ct__law_number
  F__law_number := fun_mk (st := s__law_number) l__law_number c__law_number k__law_number
  b__law_number := (fun_mk (st := s__law_number) l__law_number c__law_number k__law_number).binds (ps := ["value", "due"]) fun _ _ _ _ _ _ us hl => match us, hl with | [_, _], _ => rfl
  m__law_number := PySem.W.mg_of X G a__law_number
  a__law_said := f__law_said
  d__law_said := PySem.W.fnOf "_law_said" "_law_said" (defArgs s__law_said) (defBody s__law_said) (defScope s__law_said) .none kV__law_said dc__law_said pm__law_said an__law_said cd__law_said ct__law_said
  F__law_said := fun_mk (st := s__law_said) l__law_said c__law_said k__law_said
  b__law_said := (fun_mk (st := s__law_said) l__law_said c__law_said k__law_said).binds (ps := ["value", "due"]) fun _ _ _ _ _ _ us hl => match us, hl with | [_, _], _ => rfl
  m__law_said := PySem.W.mg_of X G a__law_said
  a__law_is_register := f__law_is_register
  d__law_is_register := PySem.W.fnOf "_law_is_register" "_law_is_register" (defArgs s__law_is_register) (defBody s__law_is_register) (defScope s__law_is_register) .none kV__law_is_register dc__law_is_register pm__law_is_register an__law_is_register cd__law_is_register ct__law_is_register
  F__law_is_register := fun_mk (st := s__law_is_register) l__law_is_register c__law_is_register k__law_is_register
  b__law_is_register := (fun_mk (st := s__law_is_register) l__law_is_register c__law_is_register k__law_is_register).binds (ps := ["told", "looks", "words"]) fun _ _ _ _ _ _ us hl => match us, hl with | [_, _, _], _ => rfl
  m__law_is_register := PySem.W.mg_of X G a__law_is_register
  a__law_told := f__law_told
  d__law_told := PySem.W.fnOf "_law_told" "_law_told" (defArgs s__law_told) (defBody s__law_told) (defScope s__law_told) .none kV__law_told dc__law_told pm__law_told an__law_told cd__law_told ct__law_told
  F__law_told := fun_mk (st := s__law_told) l__law_told c__law_told k__law_told
  b__law_told := (fun_mk (st := s__law_told) l__law_told c__law_told k__law_told).binds (ps := ["told", "looks", "words"]) fun _ _ _ _ _ _ us hl => match us, hl with | [_, _, _], _ => rfl
  m__law_told := PySem.W.mg_of X G a__law_told
  a__law_built := f__law_built
  d__law_built := PySem.W.fnOf "_law_built" "_law_built" (defArgs s__law_built) (defBody s__law_built) (defScope s__law_built) .none kV__law_built dc__law_built pm__law_built an__law_built cd__law_built ct__law_built
  F__law_built := fun_mk (st := s__law_built) l__law_built c__law_built k__law_built
  b__law_built := (fun_mk (st := s__law_built) l__law_built c__law_built k__law_built).binds (ps := ["looks", "words"]) fun _ _ _ _ _ _ us hl => match us, hl with | [_, _], _ => rfl
  m__law_built := PySem.W.mg_of X G a__law_built
  a__law_refused := f__law_refused
  d__law_refused := PySem.W.fnOf "_law_refused" "_law_refused" (defArgs s__law_refused) (defBody s__law_refused) (defScope s__law_refused) .none kV__law_refused dc__law_refused pm__law_refused an__law_refused cd__law_refused ct__law_refused
  F__law_refused := fun_mk (st := s__law_refused) l__law_refused c__law_refused k__law_refused
  b__law_refused := (fun_mk (st := s__law_refused) l__law_refused c__law_refused k__law_refused).binds (ps := ["looks", "words"]) fun _ _ _ _ _ _ us hl => match us, hl with | [_, _], _ => rfl
  m__law_refused := PySem.W.mg_of X G a__law_refused
  a__law_unclean := f__law_unclean
  d__law_unclean := PySem.W.fnOf "_law_unclean" "_law_unclean" (defArgs s__law_unclean) (defBody s__law_unclean) (defScope s__law_unclean) .none kV__law_unclean dc__law_unclean pm__law_unclean an__law_unclean cd__law_unclean ct__law_unclean
  F__law_unclean := fun_mk (st := s__law_unclean) l__law_unclean c__law_unclean k__law_unclean
  b__law_unclean := (fun_mk (st := s__law_unclean) l__law_unclean c__law_unclean k__law_unclean).binds (ps := ["looks"]) fun _ _ _ _ _ _ us hl => match us, hl with | [_], _ => rfl
  m__law_unclean := PySem.W.mg_of X G a__law_unclean
  a__law_unmixed := f__law_unmixed
  d__law_unmixed := PySem.W.fnOf "_law_unmixed" "_law_unmixed" (defArgs s__law_unmixed) (defBody s__law_unmixed) (defScope s__law_unmixed) .none kV__law_unmixed dc__law_unmixed pm__law_unmixed an__law_unmixed cd__law_unmixed ct__law_unmixed
  F__law_unmixed := fun_mk (st := s__law_unmixed) l__law_unmixed c__law_unmixed k__law_unmixed
  b__law_unmixed := (fun_mk (st := s__law_unmixed) l__law_unmixed c__law_unmixed k__law_unmixed).binds (ps := ["inner", "measurer", "target"]) fun _ _ _ _ _ _ us hl => match us, hl with | [_, _, _], _ => rfl
  m__law_unmixed := PySem.W.mg_of X G a__law_unmixed
  a__law_errors := f__law_errors
  d__law_errors := PySem.W.fnOf "_law_errors" "_law_errors" (defArgs s__law_errors) (defBody s__law_errors) (defScope s__law_errors) .none kV__law_errors dc__law_errors pm__law_errors an__law_errors cd__law_errors ct__law_errors
  F__law_errors := fun_mk (st := s__law_errors) l__law_errors c__law_errors k__law_errors
  b__law_errors := (fun_mk (st := s__law_errors) l__law_errors c__law_errors k__law_errors).binds (ps := ["pool", "looks", "words"]) fun _ _ _ _ _ _ us hl => match us, hl with | [_, _, _], _ => rfl
  m__law_errors := PySem.W.mg_of X G a__law_errors
  a__law_other := f__law_other
  d__law_other := PySem.W.fnOf "_law_other" "_law_other" (defArgs s__law_other) (defBody s__law_other) (defScope s__law_other) .none kV__law_other dc__law_other pm__law_other an__law_other cd__law_other ct__law_other
  F__law_other := fun_mk (st := s__law_other) l__law_other c__law_other k__law_other
  b__law_other := (fun_mk (st := s__law_other) l__law_other c__law_other k__law_other).binds (ps := ["pool", "looks", "words"]) fun _ _ _ _ _ _ us hl => match us, hl with | [_, _, _], _ => rfl
  m__law_other := PySem.W.mg_of X G a__law_other
  a_law := f_law
  d_law := PySem.W.fnOf "law" "law" (defArgs s_law) (defBody s_law) (defScope s_law) .none kV_law dc_law pm_law an_law cd_law ct_law
  F_law := fun_mk (st := s_law) l_law c_law k_law
  b_law := (fun_mk (st := s_law) l_law c_law k_law).binds (ps := ["script"]) fun _ _ _ _ _ _ us hl => match us, hl with | [_], _ => rfl
  m_law := PySem.W.mg_of X G a_law
  C_DeepError := C_DeepError
  m_DeepError := PySem.W.mg_of X G a_DeepError
  C_Register := C_Register
  m_Register := PySem.W.mg_of X G a_Register
  cl_Register := ⟨pg_Register, hd_Register, po_Register, sa_Register⟩
  ic_Register := ic_Register
  io_Register := io_Register
  k_Register := ⟨mk_Register, in_Register, kc_Register⟩
  C_Zero := C_Zero
  m_Zero := PySem.W.mg_of X G a_Zero
  cl_Zero := ⟨pg_Zero, hd_Zero, po_Zero, sa_Zero⟩
  ic_Zero := ic_Zero
  io_Zero := io_Zero
  a_Zero_eq := f_Zero_eq
  d_Zero_eq := PySem.W.fnOf "__eq__" "Zero.__eq__" (defArgs s_Zero_eq) (defBody s_Zero_eq) (defScope s_Zero_eq) .none kV_Zero_eq dc_Zero_eq pm_Zero_eq an_Zero_eq cd_Zero_eq ct_Zero_eq
  F_Zero_eq := fun_mk (st := s_Zero_eq) l_Zero_eq c_Zero_eq k_Zero_eq
  b_Zero_eq := (fun_mk (st := s_Zero_eq) l_Zero_eq c_Zero_eq k_Zero_eq).binds (ps := ["self", "other"]) fun _ _ _ _ _ _ us hl => match us, hl with | [_, _], _ => rfl
  fi_Zero_eq := fi_Zero_eq
  fn_Zero_eq := fn_Zero_eq
  k_Zero := ⟨mk_Zero, in_Zero, kc_Zero⟩
  C_Mix := C_Mix
  m_Mix := PySem.W.mg_of X G a_Mix
  cl_Mix := ⟨pg_Mix, hd_Mix, po_Mix, sa_Mix⟩
  ic_Mix := ic_Mix
  io_Mix := io_Mix
  a_Mix_init := f_Mix_init
  d_Mix_init := PySem.W.fnOf "__init__" "Mix.__init__" (defArgs s_Mix_init) (defBody s_Mix_init) (defScope s_Mix_init) .none kV_Mix_init dc_Mix_init pm_Mix_init an_Mix_init cd_Mix_init ct_Mix_init
  F_Mix_init := fun_mk (st := s_Mix_init) l_Mix_init c_Mix_init k_Mix_init
  b_Mix_init := (fun_mk (st := s_Mix_init) l_Mix_init c_Mix_init k_Mix_init).binds (ps := ["self", "inner", "measurer", "target", "good"]) fun _ _ _ _ _ _ us hl => match us, hl with | [_, _, _, _, _], _ => rfl
  fi_Mix_init := fi_Mix_init
  fn_Mix_init := fn_Mix_init
  a_Mix_eq := f_Mix_eq
  d_Mix_eq := PySem.W.fnOf "__eq__" "Mix.__eq__" (defArgs s_Mix_eq) (defBody s_Mix_eq) (defScope s_Mix_eq) .none kV_Mix_eq dc_Mix_eq pm_Mix_eq an_Mix_eq cd_Mix_eq ct_Mix_eq
  F_Mix_eq := fun_mk (st := s_Mix_eq) l_Mix_eq c_Mix_eq k_Mix_eq
  b_Mix_eq := (fun_mk (st := s_Mix_eq) l_Mix_eq c_Mix_eq k_Mix_eq).binds (ps := ["self", "other"]) fun _ _ _ _ _ _ us hl => match us, hl with | [_, _], _ => rfl
  fi_Mix_eq := fi_Mix_eq
  fn_Mix_eq := fn_Mix_eq
  k_Mix := ⟨mk_Mix, fi_Mix_init, fn_Mix_init, kc_Mix⟩
  n_Mix_inner := n_Mix_inner
  n_Mix_measurer := n_Mix_measurer
  n_Mix_target := n_Mix_target
  n_Mix_good := n_Mix_good
  cg := cg
  ct := ct
  is_Zero_Register := is_Zero_Register
  is_Zero_Zero := is_Zero_Zero
  is_Zero_Mix := is_Zero_Mix
  is_Mix_Register := is_Mix_Register
  is_Mix_Zero := is_Mix_Zero
  is_Mix_Mix := is_Mix_Mix
  is_NoneType_Register := is_NoneType_Register
  is_NoneType_Zero := is_NoneType_Zero
  is_NoneType_Mix := is_NoneType_Mix
  is_int_Register := is_int_Register
  is_int_Zero := is_int_Zero
  is_int_Mix := is_int_Mix
  is_str_Register := is_str_Register
  is_str_Zero := is_str_Zero
  is_str_Mix := is_str_Mix
  is_tuple_Register := is_tuple_Register
  is_tuple_Zero := is_tuple_Zero
  is_tuple_Mix := is_tuple_Mix
  nf_Zero_Zero := nf_Zero_Zero
  nf_Zero_Mix := nf_Zero_Mix
  nf_Mix_Mix := nf_Mix_Mix
  nf_Mix_Zero := nf_Mix_Zero
  nf_Mix_int := nf_Mix_int
  nf_Mix_str := nf_Mix_str
  nf_Mix_tuple := nf_Mix_tuple
  nf_Zero_int := nf_Zero_int
  C_BadSet := C_BadSet
  I_BadSet := fI_BadSet
  x_BadSet := { gC := PySem.W.mg_of X G a_BadSet, q := qi_BadSet, ov := ov_BadSet, tkr := tkr_BadSet, sa := sa_BadSet, ga := ga_BadSet, gg := gg_BadSet, noN := no_BadSet, iC := iC_BadSet, tI := tI_BadSet, kC := kC_BadSet, exC := eC_BadSet, sE := sE_BadSet, tyC := ty_BadSet, hdC := hd_BadSet, te := PySem.Dx.exm_of eC_BadSet cC_BadSet ty_BadSet sub_BadSet_BadSet, mC := mC_BadSet, cC := cC_BadSet, sup := sup_BadSet, opq := opq, gsup := PySem.W.mg_none_of X G z_super, pl := by decide, main := hmain, fn := ⟨_, _, _, _, _, _, _, _, _, _, _, _, _, _, _, _, _, _, _, _, _, fn_BadSet, cd_BadSet, cc_BadSet, ca_BadSet, vs_BadSet, hfile, by decide⟩ }
  C_BadEvidence := C_BadEvidence
  I_BadEvidence := fI_BadEvidence
  x_BadEvidence := { gC := PySem.W.mg_of X G a_BadEvidence, q := qi_BadEvidence, ov := ov_BadEvidence, tkr := tkr_BadEvidence, sa := sa_BadEvidence, ga := ga_BadEvidence, gg := gg_BadEvidence, noN := no_BadEvidence, iC := iC_BadEvidence, tI := tI_BadEvidence, kC := kC_BadEvidence, exC := eC_BadEvidence, sE := sE_BadEvidence, tyC := ty_BadEvidence, hdC := hd_BadEvidence, te := PySem.Dx.exm_of eC_BadEvidence cC_BadEvidence ty_BadEvidence sub_BadEvidence_BadEvidence, mC := mC_BadEvidence, cC := cC_BadEvidence, sup := sup_BadEvidence, opq := opq, gsup := PySem.W.mg_none_of X G z_super, pl := by decide, main := hmain, fn := ⟨_, _, _, _, _, _, _, _, _, _, _, _, _, _, _, _, _, _, _, _, _, fn_BadEvidence, cd_BadEvidence, cc_BadEvidence, ca_BadEvidence, vs_BadEvidence, hfile, by decide⟩ }
  C_BadLine := C_BadLine
  I_BadLine := fI_BadLine
  x_BadLine := { gC := PySem.W.mg_of X G a_BadLine, q := qi_BadLine, ov := ov_BadLine, tkr := tkr_BadLine, sa := sa_BadLine, ga := ga_BadLine, gg := gg_BadLine, noN := no_BadLine, iC := iC_BadLine, tI := tI_BadLine, kC := kC_BadLine, exC := eC_BadLine, sE := sE_BadLine, tyC := ty_BadLine, hdC := hd_BadLine, te := PySem.Dx.exm_of eC_BadLine cC_BadLine ty_BadLine sub_BadLine_BadLine, mC := mC_BadLine, cC := cC_BadLine, sup := sup_BadLine, opq := opq, gsup := PySem.W.mg_none_of X G z_super, pl := by decide, main := hmain, fn := ⟨_, _, _, _, _, _, _, _, _, _, _, _, _, _, _, _, _, _, _, _, _, fn_BadLine, cd_BadLine, cc_BadLine, ca_BadLine, vs_BadLine, hfile, by decide⟩ }
  te_BadSet_BadSet := PySem.Dx.exm_of eC_BadSet cC_BadSet ty_BadSet sub_BadSet_BadSet
  te_BadSet_BadEvidence := PySem.Dx.exm_of eC_BadEvidence cC_BadEvidence ty_BadEvidence sub_BadSet_BadEvidence
  te_BadSet_BadLine := PySem.Dx.exm_of eC_BadLine cC_BadLine ty_BadLine sub_BadSet_BadLine
  te_BadSet_DeepError := PySem.Dx.exm_of eC_DeepError cC_DeepError ty_DeepError sub_BadSet_DeepError
  xf_BadSet := ⟨ga_BadSet, gg_BadSet, eC_BadSet, hd_BadSet⟩
  xn_BadSet := no_BadSet
  te_BadEvidence_BadSet := PySem.Dx.exm_of eC_BadSet cC_BadSet ty_BadSet sub_BadEvidence_BadSet
  te_BadEvidence_BadEvidence := PySem.Dx.exm_of eC_BadEvidence cC_BadEvidence ty_BadEvidence sub_BadEvidence_BadEvidence
  te_BadEvidence_BadLine := PySem.Dx.exm_of eC_BadLine cC_BadLine ty_BadLine sub_BadEvidence_BadLine
  te_BadEvidence_DeepError := PySem.Dx.exm_of eC_DeepError cC_DeepError ty_DeepError sub_BadEvidence_DeepError
  xf_BadEvidence := ⟨ga_BadEvidence, gg_BadEvidence, eC_BadEvidence, hd_BadEvidence⟩
  xn_BadEvidence := no_BadEvidence
  te_BadLine_BadSet := PySem.Dx.exm_of eC_BadSet cC_BadSet ty_BadSet sub_BadLine_BadSet
  te_BadLine_BadEvidence := PySem.Dx.exm_of eC_BadEvidence cC_BadEvidence ty_BadEvidence sub_BadLine_BadEvidence
  te_BadLine_BadLine := PySem.Dx.exm_of eC_BadLine cC_BadLine ty_BadLine sub_BadLine_BadLine
  te_BadLine_DeepError := PySem.Dx.exm_of eC_DeepError cC_DeepError ty_DeepError sub_BadLine_DeepError
  xf_BadLine := ⟨ga_BadLine, gg_BadLine, eC_BadLine, hd_BadLine⟩
  xn_BadLine := no_BadLine
  z_len := PySem.W.mg_none_of X G z_len
  z_min := PySem.W.mg_none_of X G z_min
  z_max := PySem.W.mg_none_of X G z_max
  z_int := PySem.W.mg_none_of X G z_int
  z_bool := PySem.W.mg_none_of X G z_bool
  z_list := PySem.W.mg_none_of X G z_list
  z_tuple := PySem.W.mg_none_of X G z_tuple
  z_isinstance := PySem.W.mg_none_of X G z_isinstance
  z_range := PySem.W.mg_none_of X G z_range
  z_zip := PySem.W.mg_none_of X G z_zip
  z_enumerate := PySem.W.mg_none_of X G z_enumerate
  t_MIXED_MOST := t_MIXED_MOST
  c_MIXED_MOST := PySem.W.mg_of X G c_MIXED_MOST
  t_PART_TOP := t_PART_TOP
  c_PART_TOP := PySem.W.mg_of X G c_PART_TOP
end R82
local macro_rules | `(tactic| walk_at "rd") => `(tactic| (repeat (first
  | (with_reducible refine L2.r_var (by with_unfolding_all exact rfl) ?_) | (with_reducible refine L2.r_C ?_) | (with_reducible refine L2.r_seq ?_) | (with_reducible refine L2.r_asg ?_) | (with_reducible refine L2.r_gname ?_) | (with_reducible refine L2.r_ifS ?_)
  | (with_reducible refine L2.r_cons ?_) | (with_reducible refine L2.r_nil ?_) | (with_reducible refine L2.r_CB ?_) | (with_reducible refine L2.r_call ?_) | (with_reducible refine L2.r_callS ?_) | (with_reducible refine L2.r_ret ?_) | (with_reducible refine L2.r_drop ?_)
  | (with_reducible refine L2.r_op ?_) | (with_reducible refine L2.r_I0 ?_) | (with_reducible refine L2.r_un ?_) | (with_reducible refine L2.r_rU ?_) | (with_reducible refine L2.r_eq (by with_unfolding_all exact rfl) ?_) | (with_reducible refine L2.r_ne (by with_unfolding_all exact rfl) ?_)
  | (with_reducible refine L2.r_test ?_) | (with_reducible refine L2.r_tB ?_) | (with_reducible refine L2.r_bl ?_) | (with_reducible refine L2.r_and ?_) | (with_reducible refine L2.r_or ?_) | (with_reducible refine L2.r_not ?_) | (with_reducible refine L2.r_andV ?_) | (with_reducible refine L2.r_orV ?_) | (with_reducible refine L2.r_notV ?_) | (with_reducible refine L2.r_ifE ?_)
  | (with_reducible refine L2.r_iT rfl ?_) | (with_reducible refine L2.r_iF rfl ?_)
  | (with_reducible refine L2.r_tFld ?_) | (with_reducible refine L2.r_lst ?_) | (with_reducible refine L2.r_tup ?_) | (with_reducible refine L2.r_for ?_) | (with_reducible refine L2.r_rng1 ?_) | (with_reducible refine L2.r_int1 ?_) | (with_reducible refine L2.r_bm ?_) | (with_reducible refine L2.r_bm0 ?_) | (with_reducible refine L2.r_make ?_)
  | (with_reducible refine L2.r_mkD ?_) | (with_reducible refine L2.r_sFld ?_) | (with_reducible refine L2.r_iList ?_) | (with_reducible refine L2.r_iTup ?_) | (with_reducible refine L2.r_iAny ?_) | (with_reducible refine L2.r_iNum ?_) | (with_reducible refine L2.r_iZip ?_) | (with_reducible refine L2.r_gCons ?_) | (with_reducible refine L2.r_gNil ?_) | (with_reducible refine L2.r_gSub ?_) | (with_reducible refine L2.r_tLc ?_) | (with_reducible refine L2.r_yes ?_) | (with_reducible refine L2.r_revL ?_) | (with_reducible refine L2.r_I (by first | exact L2.c_pos (by omega) | exact L2.c_div (by omega) (by omega) | exact L2.c_mulL (by omega) (by omega) | exact L2.c_mulR (by omega) (by omega) | exact L2.c_pow (by omega) (by omega) (by omega)) ?_) | (with_reducible refine L2.r_tXf ?_) | (with_reducible refine L2.r_makeS ?_) | (with_reducible refine L2.r_tSl ?_) | (with_reducible refine L2.r_noPart ?_) | (with_reducible refine L2.r_part ?_) | (with_reducible refine L2.r_partI ?_) | (with_reducible refine L2.r_min2 ?_) | (with_reducible refine L2.r_next ?_) | (with_reducible refine L2.r_retN ?_) | (with_reducible refine L2.r_break ?_) | (with_reducible refine L2.r_cont ?_))))
local macro_rules | `(tactic| walk_at "rs") => `(tactic| (repeat (first
  | (with_reducible refine L2.r_var (by with_unfolding_all exact rfl) ?_) | (with_reducible refine L2.r_C ?_) | (with_reducible refine L2.r_seq ?_) | (with_reducible refine L2.r_asg ?_) | (with_reducible refine L2.r_gname ?_)
  | (with_reducible refine L2.r_cons ?_) | (with_reducible refine L2.r_nil ?_) | (with_reducible refine L2.r_CB ?_) | (with_reducible refine L2.r_call ?_) | (with_reducible refine L2.r_callS ?_) | (with_reducible refine L2.r_ret ?_) | (with_reducible refine L2.r_drop ?_)
  | (with_reducible refine L2.r_op ?_) | (with_reducible refine L2.r_I0 ?_) | (with_reducible refine L2.r_un ?_) | (with_reducible refine L2.r_rU ?_) | (with_reducible refine L2.r_eq (by with_unfolding_all exact rfl) ?_) | (with_reducible refine L2.r_ne (by with_unfolding_all exact rfl) ?_)
  | (with_reducible refine L2.r_test ?_) | (with_reducible refine L2.r_tB ?_) | (with_reducible refine L2.r_bl ?_) | (with_reducible refine L2.r_and ?_) | (with_reducible refine L2.r_or ?_) | (with_reducible refine L2.r_not ?_) | (with_reducible refine L2.r_andV ?_) | (with_reducible refine L2.r_orV ?_) | (with_reducible refine L2.r_notV ?_) | (with_reducible refine L2.r_ifE ?_)
  | (with_reducible refine L2.r_iT rfl ?_) | (with_reducible refine L2.r_iF rfl ?_)
  | (with_reducible refine L2.r_tFld ?_) | (with_reducible refine L2.r_lst ?_) | (with_reducible refine L2.r_tup ?_) | (with_reducible refine L2.r_for ?_) | (with_reducible refine L2.r_rng1 ?_) | (with_reducible refine L2.r_int1 ?_) | (with_reducible refine L2.r_bm ?_) | (with_reducible refine L2.r_bm0 ?_) | (with_reducible refine L2.r_make ?_)
  | (with_reducible refine L2.r_mkD ?_) | (with_reducible refine L2.r_sFld ?_) | (with_reducible refine L2.r_iList ?_) | (with_reducible refine L2.r_iTup ?_) | (with_reducible refine L2.r_iAny ?_) | (with_reducible refine L2.r_iNum ?_) | (with_reducible refine L2.r_iZip ?_) | (with_reducible refine L2.r_gCons ?_) | (with_reducible refine L2.r_gNil ?_) | (with_reducible refine L2.r_gSub ?_) | (with_reducible refine L2.r_tLc ?_) | (with_reducible refine L2.r_yes ?_) | (with_reducible refine L2.r_revL ?_) | (with_reducible refine L2.r_I (by first | exact L2.c_pos (by omega) | exact L2.c_div (by omega) (by omega) | exact L2.c_mulL (by omega) (by omega) | exact L2.c_mulR (by omega) (by omega) | exact L2.c_pow (by omega) (by omega) (by omega)) ?_) | (with_reducible refine L2.r_tXf ?_) | (with_reducible refine L2.r_makeS ?_) | (with_reducible refine L2.r_tSl ?_) | (with_reducible refine L2.r_noPart ?_) | (with_reducible refine L2.r_part ?_) | (with_reducible refine L2.r_partI ?_) | (with_reducible refine L2.r_min2 ?_) | (with_reducible refine L2.r_next ?_) | (with_reducible refine L2.r_retN ?_) | (with_reducible refine L2.r_break ?_) | (with_reducible refine L2.r_cont ?_))))
local macro_rules | `(tactic| walk_at "rk") => `(tactic| (repeat (first
  | (with_reducible refine L2.r_var (by with_unfolding_all exact rfl) ?_) | (with_reducible refine L2.r_C ?_) | (with_reducible refine L2.r_seq ?_) | (with_reducible refine L2.r_asg ?_) | (with_reducible refine L2.r_gname ?_) | (with_reducible refine L2.r_ifS ?_)
  | (with_reducible refine L2.r_cons ?_) | (with_reducible refine L2.r_nil ?_) | (with_reducible refine L2.r_CB ?_) | (with_reducible refine L2.r_call ?_) | (with_reducible refine L2.r_callS ?_) | (with_reducible refine L2.r_ret ?_) | (with_reducible refine L2.r_drop ?_)
  | (with_reducible refine L2.r_op ?_) | (with_reducible refine L2.r_I0 ?_) | (with_reducible refine L2.r_un ?_) | (with_reducible refine L2.r_rU ?_) | (with_reducible refine L2.r_eq (by with_unfolding_all exact rfl) ?_) | (with_reducible refine L2.r_ne (by with_unfolding_all exact rfl) ?_)
  | (with_reducible refine L2.r_test ?_) | (with_reducible refine L2.r_tB ?_) | (with_reducible refine L2.r_bl ?_) | (with_reducible refine L2.r_and ?_) | (with_reducible refine L2.r_or ?_) | (with_reducible refine L2.r_not ?_) | (with_reducible refine L2.r_andV ?_) | (with_reducible refine L2.r_orV ?_) | (with_reducible refine L2.r_notV ?_) | (with_reducible refine L2.r_ifE ?_)
  | (with_reducible refine L2.r_iT rfl ?_) | (with_reducible refine L2.r_iF rfl ?_)
  | (with_reducible refine L2.r_tFld ?_) | (with_reducible refine L2.r_lst ?_) | (with_reducible refine L2.r_tup ?_) | (with_reducible refine L2.r_for ?_) | (with_reducible refine L2.r_rng1 ?_) | (with_reducible refine L2.r_int1 ?_) | (with_reducible refine L2.r_bm ?_) | (with_reducible refine L2.r_bm0 ?_) | (with_reducible refine L2.r_make ?_)
  | (with_reducible refine L2.r_mkD ?_) | (with_reducible refine L2.r_sFld ?_) | (with_reducible refine L2.r_iList ?_) | (with_reducible refine L2.r_iTup ?_) | (with_reducible refine L2.r_iAny ?_) | (with_reducible refine L2.r_iNum ?_) | (with_reducible refine L2.r_iZip ?_) | (with_reducible refine L2.r_gCons ?_) | (with_reducible refine L2.r_gNil ?_) | (with_reducible refine L2.r_gSub ?_) | (with_reducible refine L2.r_tLc ?_) | (with_reducible refine L2.r_yes ?_) | (with_reducible refine L2.r_revL ?_) | (with_reducible refine L2.r_I (by first | exact L2.c_pos (by omega) | exact L2.c_div (by omega) (by omega) | exact L2.c_mulL (by omega) (by omega) | exact L2.c_mulR (by omega) (by omega) | exact L2.c_pow (by omega) (by omega) (by omega)) ?_) | (with_reducible refine L2.r_tXf ?_) | (with_reducible refine L2.r_makeS ?_) | (with_reducible refine L2.r_tSl ?_) | (with_reducible refine L2.r_noPart ?_) | (with_reducible refine L2.r_part ?_) | (with_reducible refine L2.r_partI ?_) | (with_reducible refine L2.r_min2 ?_) | (with_reducible refine L2.r_next ?_) | (with_reducible refine L2.r_retN ?_) | (with_reducible refine L2.r_break ?_) | (with_reducible refine L2.r_cont ?_)
  | (with_reducible refine L2.r_iT (by decide) ?_) | (with_reducible refine L2.r_iF (by decide) ?_))))
namespace R82
open PySem PySem.Spec PyProof.Rows L2
section
variable {P : Program} {w : World} {K : PySem.W.Frag} {mg : Str → Option Value} {base : Heap}
theorem sc_is_int : FnScope ["value"] ["value"] (defScope s_is_int) := ⟨rfl, rfl, rfl, by decide +kernel, rfl, by decide +kernel, by decide +kernel⟩
theorem G_is_int (T : Top P K mg) : FnOk P w K mg base CX0 1 T.a_is_int T.d_is_int ["value"] (spIsInt K) := by
  refine T.F_is_int.ok sc_is_int (fun vs H Q E h => ?_) (fun cdv A outer s H vs Q E hr h => ?_)
  · obtain ⟨x, d, rfl, _⟩ := h; rfl
  · obtain ⟨x, d, rfl, hd, q⟩ := h
    refine ⟨_, (pss_one (ps_ret (pe_and (pe_callB call_isi (by rfl) T.z_isinstance (show bootBuiltins "isinstance" = some (.builtin "isinstance") by decide +kernel) (pa_cons (pv 0) (pa_cons (pe_bltn (v := .ty "int") (u := .type "int") (by rfl) T.z_int (by decide +kernel) rfl) pa_nil))) (pe_one (pe_not (pe_callB call_isi (by rfl) T.z_isinstance (show bootBuiltins "isinstance" = some (.builtin "isinstance") by decide +kernel) (pa_cons (pv 0) (pa_cons (pe_bltn (v := .ty "bool") (u := .type "bool") (by rfl) T.z_bool (by decide +kernel) rfl) pa_nil)))))))), ?_⟩
    walk_at "rd"
    refine r_isiTy hd (kit_int hd.nodict) ?_
    walk_at "rd"
    refine r_ite (fun c => ?_) (fun c => ?_)
    · walk_at "rd"
      refine r_isiTy hd (kit_bool hd.nodict) ?_
      walk_at "rd"
      have e : isIntD d = !isBoolD d := by cases d <;> simp_all [isIntD, isBoolD]
      rw [← e]
      exact q
    · have e : isIntD d = false := by cases d <;> simp_all [isIntD, isBoolD]
      rw [← e]
      exact q
/-- a number of 0 .. last -/
def okNum : PyData → Int → Bool
  | .int i, l => decide (0 ≤ i) && decide (i ≤ l)
  | _, _ => false
def spEv (K : PySem.W.Frag) (C : Addr) : Sp := fun vs H Q E => ∃ (x : V) (d : PyData) (last : Int) (nm : Str), vs = [x, .int last, .str nm] ∧ Dp K H x d ∧ nm.length ≤ 1000 ∧
  (okNum d last = true → Q x H) ∧ (okNum d last = false → ∀ dd, H dd = none → E (.ref C) (some dd) (upd H dd (.xd [("name", .str nm)])))
theorem sc_evidence_number : FnScope ["value", "last", "name"] ["value", "last", "name"] (defScope s_evidence_number) := ⟨rfl, rfl, rfl, by decide +kernel, rfl, by decide +kernel, by decide +kernel⟩
theorem G_evidence_number (T : Top P K mg) : FnOk P w K mg base (L2.CX P w) 2 T.a_evidence_number T.d_evidence_number ["value", "last", "name"] (spEv K T.C_BadEvidence) := by
  refine T.F_evidence_number.okX sc_evidence_number (fun vs H Q E h => ?_) (fun cdv A outer s H vs Q E hr h => ?_)
  · obtain ⟨x, d, l, nm, rfl, _⟩ := h; rfl
  · obtain ⟨x, d, last, nm, rfl, hd, hn, q1, q2⟩ := h
    refine ⟨_, (pss_cons (ps_if (PW.pt (pw_or (pt_not (pt_val (pe_call (G_is_int T) (hr.mono (by decide)) rfl T.m_is_int T.F_is_int.kp T.b_is_int .nil pass0 (pa_cons (pv 0) pa_nil)))) (pw_or (pt_cmpR op_lt (pv 0) pe_int (nomark _)) (pw_or1 (pt_cmpR op_gt (pv 0) (pv 1) (nomark _)))))) (pss_one (ps_raise rfl (takes_of rfl rfl rfl rfl) (pmk_deep T.x_BadEvidence (.inl rfl) hr (by exact (pa_cons (pv 2) pa_nil))))) pss_nil)
  (pss_one (ps_ret (pv 0)))), ?_⟩
    walk_at "rd"
    refine ⟨x, d, rfl, hd, ?_⟩
    walk_at "rd"
    have herr : okNum d last = false → tMkD T.C_BadEvidence (Str.ofString "name") (tCons (tVar 2) tNil) (L2.start [Str.ofString "value", Str.ofString "last", Str.ofString "name"] [x, V.int last, V.str nm]) H fun cls d H' => E cls d H' := fun h => by
      walk_at "rd"
      exact r_mk1 hn (q2 h)
    cases hd with
    | int i =>
      refine r_iF rfl ?_
      walk_at "rd"
      refine r_ite (fun c => ?_) (fun c => ?_)
      · refine r_iT rfl (herr ?_)
        simp only [okNum, Bool.and_eq_false_iff, decide_eq_false_iff_not]
        simp only [decide_eq_true_eq] at c; omega
      · walk_at "rd"
        refine r_ite (fun c2 => herr ?_) (fun c2 => ?_)
        · simp only [okNum, Bool.and_eq_false_iff, decide_eq_false_iff_not]
          simp only [decide_eq_true_eq] at c2; omega
        · walk_at "rd"
          refine q1 ?_
          simp only [okNum, Bool.and_eq_true, decide_eq_true_eq]
          simp only [decide_eq_false_iff_not] at c c2; omega
    | _ => exact r_iT rfl (r_iT rfl (herr rfl))
end
end R82
namespace R82
open PySem PySem.Spec PyProof.Rows L2
section
variable {P : Program} {w : World} {K : PySem.W.Frag} {mg : Str → Option Value} {base : Heap} {H H' : Hp}
abbrev Reg := List (Int × Int × Bool)
def RegAt (Z M : Addr) (H : Hp) : V → Reg → Prop
  | v, [] => ∃ a dx, v = .ref a ∧ H a = some (.ins Z dx [])
  | v, (m, t, g) :: r => ∃ a dx vi, v = .ref a ∧ H a = some (.ins M dx [("inner", vi), ("measurer", .int m), ("target", .int t), ("good", .bl g)]) ∧ RegAt Z M H vi r
theorem RegAt.keep {Z M : Addr} (s : ∀ a o, H a = some o → (∀ xs, o ≠ .lst xs) → H' a = some o) : ∀ {r : Reg} {v : V}, RegAt Z M H v r → RegAt Z M H' v r
  | [], _, ⟨a, dx, e, h⟩ => ⟨a, dx, e, s _ _ h fun _ z => nomatch z⟩
  | (_, _, _) :: _, _, ⟨a, dx, vi, e, h, t⟩ => ⟨a, dx, vi, e, s _ _ h (fun _ z => nomatch z), RegAt.keep s t⟩
theorem RegAt.same {Z M : Addr} (s : Same H H') {r : Reg} {v : V} (h : RegAt Z M H v r) : RegAt Z M H' v r := h.keep fun a o e _ => s a o e
def cR (Z M : Addr) : Reg → Addr
  | [] => Z
  | _ => M
theorem RegAt.ty (T : Top P K mg) : ∀ {r : Reg} {v : V}, RegAt T.C_Zero T.C_Mix H v r → TyX K H v (.ref (cR T.C_Zero T.C_Mix r))
  | [], _, ⟨a, dx, rfl, h⟩ => .base (.ins h T.cl_Zero T.ic_Zero T.cg T.ct T.io_Zero)
  | (_, _, _) :: _, _, ⟨a, dx, vi, rfl, h, _⟩ => .base (.ins h T.cl_Mix T.ic_Mix T.cg T.ct T.io_Mix)
theorem is_reg (T : Top P K mg) (r : Reg) : PySem.W.kitOne K (.ref (cR T.C_Zero T.C_Mix r)) (.ref T.C_Register) = some true := by
  cases r with
  | nil => exact T.is_Zero_Register
  | cons _ _ => exact T.is_Mix_Register
theorem is_zero (T : Top P K mg) (r : Reg) : PySem.W.kitOne K (.ref (cR T.C_Zero T.C_Mix r)) (.ref T.C_Zero) = some r.isEmpty := by
  cases r with
  | nil => exact T.is_Zero_Zero
  | cons _ _ => exact T.is_Mix_Zero
theorem is_mix (T : Top P K mg) (r : Reg) : PySem.W.kitOne K (.ref (cR T.C_Zero T.C_Mix r)) (.ref T.C_Mix) = some (!r.isEmpty) := by
  cases r with
  | nil => exact T.is_Zero_Mix
  | cons _ _ => exact T.is_Mix_Mix
theorem nf_zero (T : Top P K mg) (r : Reg) : PySem.W.notFirst K T.C_Zero (.ref (cR T.C_Zero T.C_Mix r)) = true := by
  cases r with
  | nil => exact T.nf_Zero_Zero
  | cons _ _ => exact T.nf_Zero_Mix
theorem nf_mix (T : Top P K mg) (r : Reg) : PySem.W.notFirst K T.C_Mix (.ref (cR T.C_Zero T.C_Mix r)) = true := by
  cases r with
  | nil => exact T.nf_Mix_Zero
  | cons _ _ => exact T.nf_Mix_Mix
def spZeq (K : PySem.W.Frag) (C : Addr) : Sp := fun vs H Q _ => ∃ (a : Addr) (y : V) (t : Value) (b : Bool), vs = [.ref a, y] ∧ TyX K H y t ∧ PySem.W.kitOne K t (.ref C) = some b ∧ Q (.bl b) H
theorem sc_Zero_eq : FnScope ["self", "other"] ["self", "other"] (defScope s_Zero_eq) := ⟨rfl, rfl, rfl, by decide +kernel, rfl, by decide +kernel, by decide +kernel⟩
theorem G_Zero_eq (T : Top P K mg) : FnOk P w K mg base CX0 1 T.a_Zero_eq T.d_Zero_eq ["self", "other"] (spZeq K T.C_Zero) := by
  refine T.F_Zero_eq.ok sc_Zero_eq (fun vs H Q E h => ?_) (fun cdv A outer s H vs Q E hr h => ?_)
  · obtain ⟨a, y, t, b, rfl, _⟩ := h; rfl
  · obtain ⟨a, y, t, b, rfl, ty, e, q⟩ := h
    refine ⟨_, (pss_cons (ps_if (pt_not (pt_val (pe_callB call_isi (by rfl) T.z_isinstance (show bootBuiltins "isinstance" = some (.builtin "isinstance") by decide +kernel) (pa_cons (pv 1) (pa_cons (pe_glob (v := .ref T.C_Zero) rfl T.m_Zero rfl) pa_nil))))) (pss_one (ps_ret pe_bl)) pss_nil)
  (pss_one (ps_ret pe_bl))), ?_⟩
    walk_at "rd"
    refine r_isi (.own _) ty e ?_
    walk_at "rd"
    cases b with
    | true => exact q
    | false => exact q
def spMix (T : Top P K mg) : Sp := fun vs H Q E => ∃ (p dx : Addr) (vi : V) (ti : Value) (b : Bool) (vm : V) (dm : PyData) (vt : V) (dt : PyData) (vg : V) (dg : PyData), vs = [.ref p, vi, vm, vt, vg] ∧ H p = some (.ins T.C_Mix dx []) ∧
  TyX K H vi ti ∧ PySem.W.kitOne K ti (.ref T.C_Register) = some b ∧ Dp K H vm dm ∧ Dp K H vt dt ∧ Dp K H vg dg ∧
  (b = false → ∀ H' d, Off p H H' → H' d = some (.xd [("name", .str "inner")]) → E (.ref T.C_BadEvidence) (some d) H') ∧
  (b = true → okNum dm 7 = false → ∀ H' d, Off p H H' → H' d = some (.xd [("name", .str "measurer")]) → E (.ref T.C_BadEvidence) (some d) H') ∧
  (b = true → okNum dm 7 = true → okNum dt 7 = false → ∀ H' d, Off p H H' → H' d = some (.xd [("name", .str "target")]) → E (.ref T.C_BadEvidence) (some d) H') ∧
  (b = true → okNum dm 7 = true → okNum dt 7 = true → ∃ g, boD dg = some g ∧ ∀ H', Off p H H' → H' p = some (.ins T.C_Mix dx [("inner", vi), ("measurer", vm), ("target", vt), ("good", .bl g)]) → Q .non H')
theorem sc_Mix_init : FnScope ["self", "inner", "measurer", "target", "good"] ["self", "inner", "measurer", "target", "good"] (defScope s_Mix_init) := ⟨rfl, rfl, rfl, by decide +kernel, rfl, by decide +kernel, by decide +kernel⟩
theorem G_Mix_init (T : Top P K mg) : FnOk P w K mg base (L2.CX P w) 3 T.a_Mix_init T.d_Mix_init ["self", "inner", "measurer", "target", "good"] (spMix T) := by
  refine T.F_Mix_init.okX sc_Mix_init (fun vs H Q E h => ?_) (fun cdv A outer s H vs Q E hr h => ?_)
  · obtain ⟨p, dx, vi, ti, b, vm, dm, vt, dt, vg, dg, rfl, _⟩ := h; rfl
  · obtain ⟨p, dx, vi, ti, b, vm, dm, vt, dt, vg, dg, rfl, hp, ty, kb, hm, ht, hg, e1, e2, e3, q⟩ := h
    refine ⟨_, (pss_cons (ps_if (pt_not (pt_val (pe_callB call_isi (by rfl) T.z_isinstance (show bootBuiltins "isinstance" = some (.builtin "isinstance") by decide +kernel) (pa_cons (pv 1) (pa_cons (pe_glob (v := .ref T.C_Register) rfl T.m_Register rfl) pa_nil))))) (pss_one (ps_raise rfl (takes_of rfl rfl rfl rfl) (pmk_deep T.x_BadEvidence (.inl rfl) hr (by exact (pa_cons pe_str pa_nil))))) pss_nil)
  (pss_cons (ps_fld (pv 0) (pv 1) rfl)
  (pss_cons (ps_fld (pv 0) (pe_call (G_evidence_number T) (hr.mono (by decide)) rfl T.m_evidence_number T.F_evidence_number.kp T.b_evidence_number .nil (passes_call (takes_of rfl rfl rfl rfl) fun _ _ _ _ h => h) (pa_cons (pv 2) (pa_cons (pe_glob (v := .int 7) rfl T.c_PART_TOP ⟨_, rfl⟩) (pa_cons pe_str pa_nil)))) rfl)
  (pss_cons (ps_fld (pv 0) (pe_call (G_evidence_number T) (hr.mono (by decide)) rfl T.m_evidence_number T.F_evidence_number.kp T.b_evidence_number .nil (passes_call (takes_of rfl rfl rfl rfl) fun _ _ _ _ h => h) (pa_cons (pv 3) (pa_cons (pe_glob (v := .int 7) rfl T.c_PART_TOP ⟨_, rfl⟩) (pa_cons pe_str pa_nil)))) rfl)
  (pss_one (ps_fld (pv 0) (pe_callTy call_boolV (by rfl) T.z_bool (show bootBuiltins "bool" = some (.type "bool") by decide +kernel) (pa_cons (pv 4) pa_nil)) rfl)))))), ?_⟩
    walk_at "rd"
    refine r_isi (.own _) ty kb ?_
    walk_at "rd"
    refine r_ite (fun c => ?_) (fun c => ?_)
    · walk_at "rd"
      exact r_mk1 (by show (5 : Nat) ≤ 1000; decide) fun d hd => e1 (by simpa using c) _ _ (Off.refl.new hd) upd_same
    · have hb : b = true := by simpa using c
      walk_at "rd"
      refine r_set (fs' := [("inner", vi)]) hp T.cl_Mix T.n_Mix_inner (by decide) rfl ?_
      have o1 : Off p H (upd H p (.ins T.C_Mix dx [("inner", vi)])) := Off.refl.put
      walk_at "rd"
      refine ⟨_, dm, 7, _, rfl, hm.keep (o1.kp hp), by show (8 : Nat) ≤ 1000; decide, fun om => ?_, fun om dd hd => e2 hb om _ _ (o1.new hd) upd_same⟩
      walk_at "rd"
      refine r_set (fs' := [("inner", vi), ("measurer", vm)]) upd_same T.cl_Mix T.n_Mix_measurer (by show (1 : Nat) < 1000; decide) rfl ?_
      rw [upd_upd]
      have o2 : Off p H (upd H p (.ins T.C_Mix dx [("inner", vi), ("measurer", vm)])) := Off.refl.put
      walk_at "rd"
      refine ⟨_, dt, 7, _, rfl, ht.keep (o2.kp hp), by show (6 : Nat) ≤ 1000; decide, fun ot => ?_, fun ot dd hd => e3 hb om ot _ _ (o2.new hd) upd_same⟩
      walk_at "rd"
      refine r_set (fs' := [("inner", vi), ("measurer", vm), ("target", vt)]) upd_same T.cl_Mix T.n_Mix_target (by show (2 : Nat) < 1000; decide) rfl ?_
      rw [upd_upd]
      have o3 : Off p H (upd H p (.ins T.C_Mix dx [("inner", vi), ("measurer", vm), ("target", vt)])) := Off.refl.put
      obtain ⟨g, hgb, qq⟩ := q hb om ot
      walk_at "rd"
      refine r_boolD (hg.keep (o3.kp hp)) hgb ?_
      walk_at "rd"
      refine r_set (fs' := [("inner", vi), ("measurer", vm), ("target", vt), ("good", .bl g)]) upd_same T.cl_Mix T.n_Mix_good (by show (3 : Nat) < 1000; decide) rfl ?_
      rw [upd_upd]
      exact qq _ Off.refl.put upd_same
/-! ### == -/
def OtD : PyData → Prop
  | .int _ => True
  | .str _ => True
  | .tuple _ => True
  | _ => False
theorem ot_mix (T : Top P K mg) {d : PyData} (h : OtD d) : PySem.W.kitOne K (.type (tyD d)) (.ref T.C_Mix) = some false ∧ PySem.W.notFirst K T.C_Mix (.type (tyD d)) = true := by
  cases d with
  | int _ => exact ⟨T.is_int_Mix, T.nf_Mix_int⟩
  | str _ => exact ⟨T.is_str_Mix, T.nf_Mix_str⟩
  | tuple _ => exact ⟨T.is_tuple_Mix, T.nf_Mix_tuple⟩
  | _ => exact h.elim
def spMeq (T : Top P K mg) (n : Nat) : Sp := fun vs H Q _ => ∃ (v y : V) (r : Reg), vs = [v, y] ∧ r ≠ [] ∧ r.length ≤ n ∧ RegAt T.C_Zero T.C_Mix H v r ∧
  ((∃ r2, RegAt T.C_Zero T.C_Mix H y r2 ∧ Q (.bl (decide (r = r2))) H) ∨ ∃ d, Dp K H y d ∧ OtD d ∧ Q (.bl false) H)
def rEqO (T : Top P K mg) (n : Nat) : R2 := fun x y H Q => rOwn K T.C_Zero (spZeq K T.C_Zero) E0 x y H Q ∨ rOwn K T.C_Mix (spMeq T n) E0 x y H Q
theorem op_eqO {X : Cx} (T : Top P K mg) {n : Nat} (GM : FnOk P w K mg base CX0 (n + 2) T.a_Mix_eq T.d_Mix_eq ["self", "other"] (spMeq T n)) (h1 : X.prog = P) (h2 : X.w = w) (h3 : X.K = K) (h4 : X.mg = mg) (h5 : X.base = base) (hr : Room (n + 2) X.A) :
    OpR X (compareOp .Eq) (rEqO T n) := by
  subst h1; subst h2; subst h3; subst h4; subst h5
  exact OpR.or (op_own (G_Zero_eq T) (hr.mono (by omega)) T.fi_Zero_eq T.fn_Zero_eq T.b_Zero_eq pass0) (op_own GM hr T.fi_Mix_eq T.fn_Mix_eq T.b_Mix_eq pass0)
/-- == of a register with a register, or with an int (not beside a Zero .. see r_eqZ), a text, a tuple -/
theorem r_eqO (T : Top P K mg) {n : Nat} {Q : VK} {v y : V} {r r2 : Reg} (h : RegAt T.C_Zero T.C_Mix H v r) (hl : r.length ≤ n) (h2 : RegAt T.C_Zero T.C_Mix H y r2) (q : Q (.bl (decide (r = r2))) H) : rEqO T n v y H Q := by
  cases r with
  | nil =>
    obtain ⟨a, dx, rfl, ha⟩ := h
    refine .inl (r_own ha (h2.ty T) (nf_zero T r2) ⟨a, y, _, _, rfl, h2.ty T, is_zero T r2, ⟨_, rfl⟩, ?_⟩)
    cases r2 with
    | nil => exact q
    | cons _ _ => exact q
  | cons p r =>
    have h' := h
    obtain ⟨m, t, g⟩ := p
    obtain ⟨a, dx, vi, rfl, ha, hi⟩ := h
    exact .inr (r_own ha (h2.ty T) (nf_mix T r2) ⟨_, y, _, rfl, by simp, hl, h', .inl ⟨r2, h2, ⟨_, rfl⟩, q⟩⟩)
theorem r_eqM (T : Top P K mg) {n : Nat} {Q : VK} {v y : V} {r : Reg} {d : PyData} (h : RegAt T.C_Zero T.C_Mix H v r) (hl : r.length ≤ n) (hr : r ≠ []) (h2 : Dp K H y d) (ot : OtD d) (q : Q (.bl false) H) : rEqO T n v y H Q := by
  cases r with
  | nil => exact absurd rfl hr
  | cons p r =>
    have h' := h
    obtain ⟨m, t, g⟩ := p
    obtain ⟨a, dx, vi, rfl, ha, hi⟩ := h
    exact .inr (r_own ha h2.ty (ot_mix T ot).2 ⟨_, y, _, rfl, by simp, hl, h', .inr ⟨d, h2, ot, ⟨_, rfl⟩, q⟩⟩)
theorem r_eqZ (T : Top P K mg) {n : Nat} {Q : VK} {v : V} {i : Int} (h : RegAt T.C_Zero T.C_Mix H v []) (q : Q (.bl false) H) : rEqO T n v (.int i) H Q := by
  obtain ⟨a, dx, rfl, ha⟩ := h
  exact .inl (r_own ha (.base (.int i)) T.nf_Zero_int ⟨a, _, _, _, rfl, .base (.int i), T.is_int_Zero, ⟨_, rfl⟩, q⟩)
theorem sc_Mix_eq : FnScope ["self", "other"] ["self", "other"] (defScope s_Mix_eq) := ⟨rfl, rfl, rfl, by decide +kernel, rfl, by decide +kernel, by decide +kernel⟩
theorem G_Mix_eq (T : Top P K mg) : ∀ n : Nat, FnOk P w K mg base CX0 (n + 2) T.a_Mix_eq T.d_Mix_eq ["self", "other"] (spMeq T n)
  | 0 => T.F_Mix_eq.ok sc_Mix_eq (fun vs H Q E h => by obtain ⟨v, y, r, rfl, _⟩ := h; rfl) (fun cdv A outer s H vs Q E hr h => by
      obtain ⟨v, y, r, rfl, hn, hl, _⟩ := h
      cases r with
      | nil => exact absurd rfl hn
      | cons _ _ => simp at hl)
  | n + 1 => by
    have GM : FnOk P w K mg base CX0 (n + 2) T.a_Mix_eq T.d_Mix_eq ["self", "other"] (spMeq T n) := G_Mix_eq T n
    refine T.F_Mix_eq.ok sc_Mix_eq (fun vs H Q E h => by obtain ⟨v, y, r, rfl, _⟩ := h; rfl) (fun cdv A outer s H vs Q E hr h => ?_)
    obtain ⟨v, y, r, rfl, hn, hl, hv, hy⟩ := h
    refine ⟨_, (pss_cons (ps_if (pt_not (pt_val (pe_callB call_isi (by rfl) T.z_isinstance (show bootBuiltins "isinstance" = some (.builtin "isinstance") by decide +kernel) (pa_cons (pv 1) (pa_cons (pe_glob (v := .ref T.C_Mix) rfl T.m_Mix rfl) pa_nil))))) (pss_one (ps_ret pe_bl)) pss_nil)
  (pss_cons (ps_if (PW.pt (pw_or (pt_cmpR op_ne (pe_fld (pv 0) rfl) (pe_fld (pv 1) rfl) (nomark _)) (pw_or1 (pt_cmpR op_ne (pe_fld (pv 0) rfl) (pe_fld (pv 1) rfl) (nomark _))))) (pss_one (ps_ret pe_bl)) pss_nil)
  (pss_one (ps_ret (pe_and (pe_cmpR op_eq (pe_fld (pv 0) rfl) (pe_fld (pv 1) rfl) (nomark _)) (pe_one (pe_cmpR (op_eqO T GM rfl rfl rfl rfl rfl (hr.mono (by omega))) (pe_fld (pv 0) rfl) (pe_fld (pv 1) rfl) (nomark _)))))))), ?_⟩
    cases r with
    | nil => exact absurd rfl hn
    | cons p r =>
    obtain ⟨m, t, g⟩ := p
    obtain ⟨a, dx, vi, rfl, ha, hi⟩ := hv
    walk_at "rd"
    rcases hy with ⟨r2, h2, q⟩ | ⟨d, h2, ot, q⟩
    · refine r_isi (.own _) (h2.ty T) (is_mix T r2) ?_
      walk_at "rd"
      cases r2 with
      | nil =>
        refine r_iT rfl ?_
        walk_at "rd"
        exact q
      | cons p2 r2 =>
      obtain ⟨m2, t2, g2⟩ := p2
      obtain ⟨a2, dx2, vi2, rfl, ha2, hi2⟩ := h2
      refine r_iF rfl ?_
      walk_at "rd"
      refine r_fld ha T.cl_Mix T.n_Mix_measurer rfl ?_
      walk_at "rd"
      refine r_fld ha2 T.cl_Mix T.n_Mix_measurer rfl ?_
      walk_at "rd"
      refine r_ite (fun c => ?_) (fun c => ?_)
      · refine r_iT rfl ?_
        walk_at "rd"
        have e : decide ((m, t, g) :: r = (m2, t2, g2) :: r2) = false := by simp_all
        rw [e] at q
        exact q
      walk_at "rd"
      refine r_fld ha T.cl_Mix T.n_Mix_target rfl ?_
      walk_at "rd"
      refine r_fld ha2 T.cl_Mix T.n_Mix_target rfl ?_
      walk_at "rd"
      refine r_ite (fun c2 => ?_) (fun c2 => ?_)
      · walk_at "rd"
        have e : decide ((m, t, g) :: r = (m2, t2, g2) :: r2) = false := by simp_all
        rw [e] at q
        exact q
      walk_at "rd"
      refine r_fld ha T.cl_Mix T.n_Mix_good rfl ?_
      walk_at "rd"
      refine r_fld ha2 T.cl_Mix T.n_Mix_good rfl ?_
      walk_at "rd"
      refine r_ite (fun c3 => ?_) (fun c3 => ?_)
      · walk_at "rd"
        refine r_fld ha T.cl_Mix T.n_Mix_inner rfl ?_
        walk_at "rd"
        refine r_fld ha2 T.cl_Mix T.n_Mix_inner rfl ?_
        refine r_eqO T hi (by simp at hl; omega) hi2 ?_
        have e : decide (r = r2) = decide ((m, t, g) :: r = (m2, t2, g2) :: r2) := by simp_all
        rw [e]
        exact q
      · have e : decide ((m, t, g) :: r = (m2, t2, g2) :: r2) = false := by simp_all
        rw [e] at q
        exact q
    · refine r_isi (.own _) h2.ty (ot_mix T ot).1 ?_
      walk_at "rd"
      exact q
end
end R82
namespace R82
open PySem PySem.Spec PyProof.Rows L2
section
variable {P : Program} {w : World} {K : PySem.W.Frag} {mg : Str → Option Value} {base : Heap} {H H' : Hp}
abbrev Row := List (Int × Int)
def RowAt (H : Hp) : List V → Row → Prop := Paired fun v r => ∃ p, v = .ref p ∧ H p = some (.tup [.int r.1, .int r.2])
theorem RowAt.keep (s : ∀ a o, H a = some o → (∀ xs, o ≠ .lst xs) → H' a = some o) : ∀ {xs : List V} {r : Row}, RowAt H xs r → RowAt H' xs r
  | _, _, .nil => .nil
  | _, _, .cons ⟨p, e, h⟩ t => .cons ⟨p, e, s _ _ h fun _ z => nomatch z⟩ (RowAt.keep s t)
theorem RowAt.length {xs : List V} {r : Row} (h : RowAt H xs r) : xs.length = r.length := Paired.length h
theorem RowAt.append : ∀ {xs ys : List V} {r q : Row}, RowAt H xs r → RowAt H ys q → RowAt H (xs ++ ys) (r ++ q)
  | _, _, _, _, .nil, h => h
  | _, _, _, _, .cons a t, h => .cons a (RowAt.append t h)
theorem RowAt.reverse : ∀ {xs : List V} {r : Row}, RowAt H xs r → RowAt H xs.reverse r.reverse
  | _, _, .nil => .nil
  | _, _, .cons a t => by
    rw [List.reverse_cons, List.reverse_cons]
    exact (RowAt.reverse t).append (.cons a .nil)
theorem RowAt.get : ∀ {xs : List V} {r : Row} {i : Nat} {v : V}, RowAt H xs r → xs[i]? = some v → ∃ m t p, r[i]? = some (m, t) ∧ v = .ref p ∧ H p = some (.tup [.int m, .int t])
  | _, _, 0, _, .cons ⟨p, e, h⟩ _, g => by simp at g; subst g; exact ⟨_, _, p, rfl, e, h⟩
  | _, _, i + 1, v, .cons _ t, g => by
    obtain ⟨m, t', p, h1, h2⟩ := RowAt.get (i := i) (v := v) t (by simpa using g)
    exact ⟨m, t', p, by simpa using h1, h2⟩
  | _, _, _, _, .nil, g => by simp at g
def pairD (p : Int × Int) : PyData := .tuple [.int p.1, .int p.2]
theorem RowAt.dp : ∀ {xs : List V} {r : Row}, RowAt H xs r → DpAll K H xs (r.map pairD)
  | _, _, .nil => .nil
  | _, _, .cons ⟨p, e, h⟩ t => .cons (by subst e; exact .tup (.inl (.inl h)) (.cons (.int _) (.cons (.int _) .nil))) (RowAt.dp t)
/-- what a look says -/
def lookP (d : PyData) : Option (Int × Int) := match seqD d with
  | some [.int i, .int j] => if okNum (.int i) 7 && okNum (.int j) 7 then some (i, j) else none
  | _ => none
def rowP : Nat → List PyData → Except Int Row
  | _, [] => .ok []
  | n, d :: ds => match lookP d with
    | none => .error n
    | some p => match rowP (n + 1) ds with
      | .ok r => .ok (p :: r)
      | .error e => .error e
def mixedP (d : PyData) : Except Int Row := match seqD d with
  | none => .error (-1)
  | some ds => if 16 < ds.length then .error (-1) else rowP 0 ds
def preR (row : Row) : Except Int Row → Except Int Row
  | .ok r => .ok (row ++ r)
  | .error e => .error e
theorem rowP_step {n : Nat} {ds : List PyData} {row : Row} {d : PyData} {p : Int × Int} {R : Except Int Row} (hn : ds[n]? = some d) (hp : lookP d = some p) (h : R = preR row (rowP n (ds.drop n))) : R = preR (row ++ [p]) (rowP (n + 1) (ds.drop (n + 1))) := by
  have hlt : n < ds.length := by
    by_cases h : n < ds.length
    · exact h
    · rw [List.getElem?_eq_none (by omega)] at hn; cases hn
  have e : ds.drop n = d :: ds.drop (n + 1) := by
    rw [List.drop_eq_getElem_cons hlt]
    rw [List.getElem?_eq_getElem hlt] at hn
    rw [Option.some.inj hn]
  rw [h, e]
  show preR row (match lookP d with | none => .error (n : Int) | some p => match rowP (n + 1) (ds.drop (n + 1)) with | .ok r => .ok (p :: r) | .error e => .error e) = _
  rw [hp]
  cases rowP (n + 1) (ds.drop (n + 1)) with
  | ok r => simp [preR]
  | error e => rfl
theorem rowP_err {n : Nat} {ds : List PyData} {row : Row} {d : PyData} {R : Except Int Row} (hn : ds[n]? = some d) (hp : lookP d = none) (h : R = preR row (rowP n (ds.drop n))) : R = .error n := by
  have hlt : n < ds.length := by
    by_cases h : n < ds.length
    · exact h
    · rw [List.getElem?_eq_none (by omega)] at hn; cases hn
  have e : ds.drop n = d :: ds.drop (n + 1) := by
    rw [List.drop_eq_getElem_cons hlt]
    rw [List.getElem?_eq_getElem hlt] at hn
    rw [Option.some.inj hn]
  rw [h, e]
  show preR row (match lookP d with | none => .error (n : Int) | some p => match rowP (n + 1) (ds.drop (n + 1)) with | .ok r => .ok (p :: r) | .error e => .error e) = _
  rw [hp]
  rfl
def spMixed (T : Top P K mg) : Sp := fun vs H Q E => ∃ x d, vs = [x] ∧ Dp K H x d ∧ (∀ row, mixedP d = .ok row → ∀ H' a ps, Same H H' → H' a = some (.tup ps) → RowAt H' ps row → Q (.ref a) H') ∧
  ∀ e, mixedP d = .error e → ∀ H' dd, Same H H' → H' dd = some (.xd [("place", .int e)]) → E (.ref T.C_BadLine) (some dd) H'
theorem okNum_int {v : V} {d : PyData} {l : Int} (h : okNum d l = true) (D : Dp K H v d) : ∃ n, v = .int n ∧ d = .int n := by
  cases D with
  | int n => exact ⟨n, rfl, rfl⟩
  | _ => exact absurd h Bool.false_ne_true
theorem sc_mixed_row : FnScope ["looks", "told", "at", "look", "part"] ["looks"] (defScope s_mixed_row) := ⟨rfl, rfl, rfl, by decide +kernel, rfl, by decide +kernel, by decide +kernel⟩
theorem G_mixed_row (T : Top P K mg) : FnOk P w K mg base (L2.CX P w) 2 T.a_mixed_row T.d_mixed_row ["looks"] (spMixed T) := by
  refine T.F_mixed_row.okX sc_mixed_row (fun vs H Q E h => ?_) (fun cdv A outer s H vs Q E hr h => ?_)
  · obtain ⟨x, d, rfl, _⟩ := h; rfl
  · obtain ⟨x, d, rfl, hd, qk, qe⟩ := h
    refine ⟨_, (pss_cons (ps_if (PW.pt (pw_or (pt_not (pt_val (pe_callB call_isiT (by rfl) T.z_isinstance (by decide +kernel) (pa_cons (pv 0) (pa_cons (pe_tup (pa_cons (pe_bltn (v := .ty "list") (u := .type "list") (by rfl) T.z_list (by decide +kernel) rfl) (pa_cons (pe_bltn (v := .ty "tuple") (u := .type "tuple") (by rfl) T.z_tuple (by decide +kernel) rfl) pa_nil))) pa_nil))))) (pw_or1 (pt_cmpR op_gt (pe_callB call_len_seq (by rfl) T.z_len (show bootBuiltins "len" = some (.builtin "len") by decide +kernel) (pa_cons (pv 0) pa_nil)) (pe_glob (v := .int 16) rfl T.c_MIXED_MOST ⟨_, rfl⟩) (nomark _))))) (pss_one (ps_raise rfl (takes_of rfl rfl rfl rfl) (pmk_deep T.x_BadLine (.inr rfl) hr (by exact (pa_cons (pe_un un_neg pe_int) pa_nil))))) pss_nil)
  (pss_cons (ps_set (i := 1) sc_mixed_row.nd rfl (Or.inl rfl) (pe_lst pa_nil))
  (pss_cons (ps_for (passes_of rfl) rfl (pi_enumM (by rfl) T.z_enumerate (pa_cons (pv 0) pa_nil)) (pg_tup (by rfl) (pgs_cons (pg_name (i := 2) sc_mixed_row.nd rfl (Or.inl rfl)) (pgs_cons (pg_name (i := 3) sc_mixed_row.nd rfl (Or.inl rfl)) pgs_nil)))
  (pss_cons (ps_if (PW.pt (pw_or (pt_not (pt_val (pe_callB call_isiT (by rfl) T.z_isinstance (by decide +kernel) (pa_cons (pv 3) (pa_cons (pe_tup (pa_cons (pe_bltn (v := .ty "list") (u := .type "list") (by rfl) T.z_list (by decide +kernel) rfl) (pa_cons (pe_bltn (v := .ty "tuple") (u := .type "tuple") (by rfl) T.z_tuple (by decide +kernel) rfl) pa_nil))) pa_nil))))) (pw_or1 (pt_cmpR op_ne (pe_callB call_len_seq (by rfl) T.z_len (show bootBuiltins "len" = some (.builtin "len") by decide +kernel) (pa_cons (pv 3) pa_nil)) pe_int (nomark _))))) (pss_one (ps_raise rfl (takes_of rfl rfl rfl rfl) (pmk_deep T.x_BadLine (.inr rfl) hr (by exact (pa_cons (pv 2) pa_nil))))) pss_nil)
  (pss_cons (ps_for (passes_of rfl) rfl (pi_any (pv 3)) (pg_name (i := 4) sc_mixed_row.nd rfl (Or.inl rfl))
  (pss_one (ps_if (PW.pt (pw_or (pt_not (pt_val (pe_call (G_is_int T) (hr.mono (by decide)) rfl T.m_is_int T.F_is_int.kp T.b_is_int .nil pass0 (pa_cons (pv 4) pa_nil)))) (pw_or (pt_cmpR op_lt (pv 4) pe_int (nomark _)) (pw_or1 (pt_cmpR op_gt (pv 4) (pe_glob (v := .int 7) rfl T.c_PART_TOP ⟨_, rfl⟩) (nomark _)))))) (pss_one (ps_raise rfl (takes_of rfl rfl rfl rfl) (pmk_deep T.x_BadLine (.inr rfl) hr (by exact (pa_cons (pv 2) pa_nil))))) pss_nil)))
  (pss_one (ps_expr (pe_bm PySem.F.plainAttrs_list PySem.F.slot_list_append PySem.F.type_list_append mt_append (pv 1) (pa_cons (pe_tup (pa_cons (pe_ix ix_seq (pv 3) pe_int (fun _ _ => rfl)) (pa_cons (pe_ix ix_seq (pv 3) pe_int (fun _ _ => rfl)) pa_nil))) pa_nil)))))))
  (pss_one (ps_ret (pe_callTy call_tuple_of (by rfl) T.z_tuple (show bootBuiltins "tuple" = some (.type "tuple") by decide +kernel) (pa_cons (pv 1) pa_nil))))))), ?_⟩
    walk_at "rd"
    refine ⟨by show (2 : Nat) ≤ sizeLine; decide, fun tp htp => ?_⟩
    walk_at "rd"
    have s1 := same_new (o := .tup [.ty "list", .ty "tuple"]) htp
    refine r_isiLT (hd.same s1) upd_same ?_
    walk_at "rd"
    cases hs : seqD d with
    | none =>
      refine r_iT rfl (r_iT rfl ?_)
      walk_at "rd"
      refine r_mk1 (fmt_small (by decide)) fun dd hdd => qe (-1) (by unfold mixedP; rw [hs]) _ _ (s1.new hdd) upd_same
    | some ds =>
      refine r_iF rfl ?_
      walk_at "rd"
      obtain ⟨k, a, xs, rfl, hq, hxs⟩ := hd.seq hs
      refine r_lenK (hq.same s1) ?_
      walk_at "rd"
      have hl := hxs.length
      refine r_ite (fun c => ?_) (fun c => ?_)
      · walk_at "rd"
        have h16 : 16 < ds.length := by have := of_decide_eq_true c; omega
        exact r_mk1 (fmt_small (by decide)) fun dd hdd => qe (-1) (by unfold mixedP; rw [hs]; exact if_pos h16) _ _ (s1.new hdd) upd_same
      have h16 : ¬ 16 < ds.length := by have := of_decide_eq_false c; omega
      have hm : mixedP d = rowP 0 ds := by unfold mixedP; rw [hs]; exact if_neg h16
      rw [hm] at qk qe
      walk_at "rd"
      refine ⟨by show (0 : Nat) ≤ sizeLine; decide, fun l hl0 => ?_⟩
      walk_at "rd"
      have s2 := s1.new (o := .lst []) hl0
      have hl1 : H l = none := s1.free hl0
      refine r_forNum (fun i σ H1 => Same H H1 ∧ ∃ ps row o2 o3 o4, σ = [some (.ref a), some (.ref l), o2, o3, o4] ∧ H1 l = some (.lst ps) ∧ RowAt H1 ps row ∧ row.length = i ∧ rowP 0 ds = preR row (rowP i (ds.drop i)))
        (hq.same s2) ⟨s2, [], [], _, _, _, rfl, upd_same, .nil, rfl, by cases h : rowP 0 ds <;> simp [preR, h]⟩ (fun i σ H1 p => ?_) ?_ ?_
      · obtain ⟨s3, _⟩ := p
        exact hq.same s3
      · rintro i y Tp σ H1 hy ⟨s3, ps, row, o2, o3, o4, rfl, hps, hrow, hlen, hR⟩ hTp
        obtain ⟨dy, hdy, Dy⟩ := hxs.get hy
        have hi : i ≤ 16 := by
          have : i < ds.length := by
            by_cases h : i < ds.length
            · exact h
            · rw [List.getElem?_eq_none (by omega)] at hdy; cases hdy
          omega
        have s4 : Same H (upd H1 Tp (.tup [.int i, y])) := s3.new hTp
        have herr : lookP dy = none → ∀ H' dd, Same H H' → H' dd = some (.xd [("place", .int i)]) → E (.ref T.C_BadLine) (some dd) H' := fun h => qe i (rowP_err hdy h hR)
        refine r_gTup upd_same rfl ?_
        walk_at "rd"
        refine ⟨by show (2 : Nat) ≤ sizeLine; decide, fun tq htq => ?_⟩
        walk_at "rd"
        have s5 := s4.new (o := .tup [.ty "list", .ty "tuple"]) htq
        refine r_isiLT (Dy.same s5) upd_same ?_
        walk_at "rd"
        cases hsy : seqD dy with
        | none =>
          refine r_iT rfl (r_iT rfl ?_)
          walk_at "rd"
          exact r_mk1 (fmt_small (by omega)) fun dd hdd => herr (by unfold lookP; rw [hsy]) _ _ (s5.new hdd) upd_same
        | some es =>
          refine r_iF rfl ?_
          walk_at "rd"
          obtain ⟨ky, b, ys, rfl, hqy, hys⟩ := Dy.seq hsy
          refine r_lenK (hqy.same s5) ?_
          walk_at "rd"
          have hly := hys.length
          refine r_ite (fun c2 => ?_) (fun c2 => ?_)
          · walk_at "rd"
            refine r_mk1 (fmt_small (by omega)) fun dd hdd => herr ?_ _ _ (s5.new hdd) upd_same
            have h2 : es.length ≠ 2 := by
              intro h
              rw [hly, h] at c2
              exact absurd c2 (by decide)
            unfold lookP; rw [hsy]
            match es, h2 with
            | [], _ => rfl
            | [_], _ => split <;> simp_all
            | [_, _], h => exact absurd rfl h
            | _ :: _ :: _ :: _, _ => split <;> simp_all
          have h2 : ys.length = 2 := by
            have e := c2
            simp only [Bool.not_eq_false', decide_eq_true_eq, V.int.injEq] at e
            omega
          obtain ⟨y1, y2, rfl⟩ : ∃ y1 y2, ys = [y1, y2] := by
            match ys, h2 with
            | [y1, y2], _ => exact ⟨y1, y2, rfl⟩
          obtain ⟨e1, es, rfl, D1, hys⟩ := hys.uncons
          obtain ⟨e2, es, rfl, D2, hys⟩ := hys.uncons
          cases hys
          walk_at "rd"
          refine r_forAny (fun j σ H2 => Same H H2 ∧ H2 l = some (.lst ps) ∧ RowAt H2 ps row ∧ (∃ o4, σ = [some (.ref a), some (.ref l), some (.int i), some (.ref b), o4]) ∧ (1 ≤ j → okNum e1 7 = true) ∧ (2 ≤ j → okNum e2 7 = true))
            (hqy.same s5) ⟨s5, ?_, ?_, ⟨_, rfl⟩, by omega, by omega⟩ (fun j σ H2 _ p => hqy.same p.1) ?_ ?_
          · rw [upd_ne (ne_of_none (by rw [upd_ne (ne_of_none hps hTp)]; exact hps) htq), upd_ne (ne_of_none hps hTp)]; exact hps
          · exact (hrow.keep fun a o e _ => same_new hTp a o e).keep fun a o e _ => same_new htq a o e
          · rintro j z σ H2 hz ⟨s6, hps2, hrow2, ⟨o4, rfl⟩, ok1, ok2⟩
            walk_at "rd"
            obtain ⟨ez, hez, Dz⟩ := (DpAll.cons D1 (.cons D2 .nil)).get hz
            have hj : (j = 0 ∧ ez = e1) ∨ (j = 1 ∧ ez = e2) := by
              match j, hez with
              | 0, h => left; exact ⟨rfl, (Option.some.inj h).symm⟩
              | 1, h => right; exact ⟨rfl, (Option.some.inj h).symm⟩
            have hbad : okNum ez 7 = false → lookP dy = none := by
              intro h
              unfold lookP; rw [hsy]
              rcases hj with ⟨_, rfl⟩ | ⟨_, rfl⟩
              · split
                · rename_i heq; simp only [Option.some.injEq, List.cons.injEq, and_true] at heq; obtain ⟨rfl, rfl⟩ := heq; rw [h]; rfl
                · rfl
              · split
                · rename_i heq; simp only [Option.some.injEq, List.cons.injEq, and_true] at heq; obtain ⟨rfl, rfl⟩ := heq; rw [h, Bool.and_false]; rfl
                · rfl
            have herr2 : okNum ez 7 = false → tMkD T.C_BadLine (Str.ofString "place") (tCons (tVar 2) tNil) ([some (V.ref a), some (V.ref l), some (V.int i), some (V.ref b), o4].set 4 (some z)) H2 fun cls d H' => E cls d H' := fun h => by
              walk_at "rd"
              exact r_mk1 (fmt_small (by omega)) fun dd hdd => herr (hbad h) _ _ (s6.new hdd) upd_same
            have hgood : okNum ez 7 = true → Same H H2 ∧ H2 l = some (.lst ps) ∧ RowAt H2 ps row ∧ (∃ o4, [some (V.ref a), some (V.ref l), some (V.int i), some (V.ref b), some z] = [some (V.ref a), some (V.ref l), some (V.int i), some (V.ref b), o4]) ∧ (1 ≤ j + 1 → okNum e1 7 = true) ∧ (2 ≤ j + 1 → okNum e2 7 = true) := fun h => by
              refine ⟨s6, hps2, hrow2, ⟨_, rfl⟩, fun _ => ?_, fun _ => ?_⟩
              · rcases hj with ⟨rfl, rfl⟩ | ⟨rfl, rfl⟩
                · exact h
                · exact ok1 (Nat.le_refl _)
              · rcases hj with ⟨rfl, rfl⟩ | ⟨rfl, rfl⟩
                · omega
                · exact h
            refine ⟨z, ez, rfl, Dz.same s6, ?_⟩
            walk_at "rd"
            have Dz' := Dz
            cases Dz with
            | int n =>
              refine r_iF rfl ?_
              walk_at "rd"
              refine r_ite (fun c => ?_) (fun c => ?_)
              · refine r_iT rfl (herr2 ?_)
                simp only [okNum, Bool.and_eq_false_iff, decide_eq_false_iff_not]
                simp only [decide_eq_true_eq] at c; omega
              · walk_at "rd"
                refine r_ite (fun c2 => herr2 ?_) (fun c2 => ?_)
                · simp only [okNum, Bool.and_eq_false_iff, decide_eq_false_iff_not]
                  simp only [decide_eq_true_eq] at c2; omega
                · walk_at "rd"
                  refine hgood ?_
                  simp only [okNum, Bool.and_eq_true, decide_eq_true_eq]
                  simp only [decide_eq_false_iff_not] at c c2; omega
            | _ => exact r_iT rfl (r_iT rfl (herr2 rfl))
          · rintro σ H2 ⟨s6, hps2, hrow2, ⟨o4, rfl⟩, ok1, ok2⟩
            have k1 := ok1 (by simp)
            have k2 := ok2 (by simp)
            clear ok1 ok2
            walk_at "rd"
            obtain ⟨n1, rfl, rfl⟩ := okNum_int k1 D1
            obtain ⟨n2, rfl, rfl⟩ := okNum_int k2 D2
            refine ⟨ty_list (.inl (.inl hps2)), ?_⟩
            walk_at "rd"
            refine r_ixK (hqy.same s6) rfl ?_
            walk_at "rd"
            refine r_ixK (hqy.same s6) rfl ?_
            walk_at "rd"
            refine ⟨by show (2 : Nat) ≤ sizeLine; decide, fun p hp => ?_⟩
            walk_at "rd"
            have hne : l ≠ p := ne_of_none hps2 hp
            have hlp : ps.length = i := by rw [hrow2.length]; exact hlen
            have hsz : (1000 : Nat) ≤ sizeLine := by decide
            refine r_append (xs := ps) (by rw [upd_ne hne]; exact hps2) (by omega) ?_
            have s7 : Same H (upd (upd H2 p (.tup [.int n1, .int n2])) l (.lst (ps ++ [.ref p]))) := (s6.new hp).put hl1
            refine ⟨s7, _, row ++ [(n1, n2)], _, _, _, rfl, upd_same, ?_, by rw [List.length_append, hlen]; rfl, rowP_step hdy (by unfold lookP; rw [hsy]; exact if_pos (by rw [k1, k2]; rfl)) hR⟩
            refine RowAt.append (hrow2.keep fun u o e n => ?_) (.cons ⟨p, rfl, by rw [upd_ne hne.symm]; exact upd_same⟩ .nil)
            have hul : u ≠ l := fun z => by subst z; rw [hps2] at e; cases e; exact n _ rfl
            rw [upd_ne hul, upd_ne (ne_of_none e hp)]; exact e
      · rintro σ H1 ⟨s3, ps, row, o2, o3, o4, rfl, hps, hrow, hlen, hR⟩
        have hR2 : rowP 0 ds = .ok row := by
          rw [hR, hl, List.drop_length]
          show Except.ok (row ++ []) = _
          rw [List.append_nil]
        walk_at "rd"
        refine r_tupL (.inl (.inl hps)) fun p hp => ?_
        exact qk row hR2 _ p ps (s3.new hp) upd_same (hrow.keep fun a o e _ => same_new hp a o e)
end
end R82
namespace R82
open PySem PySem.Spec PyProof.Rows L2
section
variable {P : Program} {w : World} {K : PySem.W.Frag} {mg : Str → Option Value} {base : Heap} {H H' : Hp}
def regOf (row : Row) (gs : List Bool) : Reg := ((row.zip gs).map fun x => (x.1.1, x.1.2, x.2)).reverse
theorem regOf_step {row : Row} {gs : List Bool} {i : Nat} {m t : Int} {g : Bool} (h1 : row[i]? = some (m, t)) (h2 : gs[i]? = some g) : regOf (row.take (i + 1)) (gs.take (i + 1)) = (m, t, g) :: regOf (row.take i) (gs.take i) := by
  unfold regOf
  have l1 : i < row.length := by
    by_cases h : i < row.length
    · exact h
    · rw [List.getElem?_eq_none (by omega)] at h1; cases h1
  have l2 : i < gs.length := by
    by_cases h : i < gs.length
    · exact h
    · rw [List.getElem?_eq_none (by omega)] at h2; cases h2
  rw [List.take_add_one, List.take_add_one, h1, h2]
  show (List.map _ (List.zip (row.take i ++ [(m, t)]) (gs.take i ++ [g]))).reverse = _
  rw [List.zip_append (by rw [List.length_take, List.length_take]; omega), List.map_append, List.reverse_append]
  rfl
theorem rowP_ok : ∀ {ds : List PyData} {n : Nat} {row : Row}, rowP n ds = .ok row → row.length = ds.length ∧ ∀ p ∈ row, okNum (.int p.1) 7 = true ∧ okNum (.int p.2) 7 = true
  | [], _, _, h => by cases h; exact ⟨rfl, fun _ z => absurd z (by simp)⟩
  | d :: ds, n, row, h => by
    unfold rowP at h
    cases hl : lookP d with
    | none => rw [hl] at h; cases h
    | some p =>
      rw [hl] at h
      simp only at h
      cases hr : rowP (n + 1) ds with
      | error e => rw [hr] at h; cases h
      | ok r =>
        rw [hr] at h
        cases h
        obtain ⟨h1, h2⟩ := rowP_ok hr
        refine ⟨by simp [h1], fun q hq => ?_⟩
        rcases List.mem_cons.mp hq with rfl | hq
        · unfold lookP at hl
          split at hl
          · split at hl
            · rename_i hc
              cases hl
              exact Bool.and_eq_true_iff.mp hc
            · cases hl
          · cases hl
        · exact h2 q hq
theorem mixedP_ok {d : PyData} {row : Row} (h : mixedP d = .ok row) : row.length ≤ 16 ∧ ∀ p ∈ row, okNum (.int p.1) 7 = true ∧ okNum (.int p.2) 7 = true := by
  unfold mixedP at h
  cases hs : seqD d with
  | none => rw [hs] at h; cases h
  | some ds =>
    rw [hs] at h
    simp only at h
    by_cases hl : 16 < ds.length
    · rw [if_pos hl] at h; cases h
    · rw [if_neg hl] at h
      obtain ⟨h1, h2⟩ := rowP_ok h
      exact ⟨by omega, h2⟩
def wordsP (e : PyData) (n : Nat) : Option (List PyData) := match seqD e with
  | some es => if es.length = n then some es else none
  | none => none
def spRegOf (T : Top P K mg) : Sp := fun vs H Q E => ∃ x d y e, vs = [x, y] ∧ Dp K H x d ∧ Dp K H y e ∧
  (∀ n, mixedP d = .error n → ∀ H' dd, Same H H' → H' dd = some (.xd [("place", .int n)]) → E (.ref T.C_BadLine) (some dd) H') ∧
  (∀ row, mixedP d = .ok row → wordsP e row.length = none → ∀ H' dd, Same H H' → H' dd = some (.xd [("name", .str "words")]) → E (.ref T.C_BadSet) (some dd) H') ∧
  (∀ row es, mixedP d = .ok row → wordsP e row.length = some es → ∃ gs : List Bool, es.map boD = gs.map some ∧ ∀ H' v, Same H H' → RegAt T.C_Zero T.C_Mix H' v (regOf row gs) → Q v H')
theorem sc_register_of : FnScope ["looks", "words", "row", "whole", "look", "word"] ["looks", "words"] (defScope s_register_of) := ⟨rfl, rfl, rfl, by decide +kernel, rfl, by decide +kernel, by decide +kernel⟩
theorem G_register_of (T : Top P K mg) : FnOk P w K mg base (L2.CX P w) 6 T.a_register_of T.d_register_of ["looks", "words"] (spRegOf T) := by
  refine T.F_register_of.okX sc_register_of (fun vs H Q E h => ?_) (fun cdv A outer s H vs Q E hr h => ?_)
  · obtain ⟨x, d, y, e, rfl, _⟩ := h; rfl
  · obtain ⟨x, d, y, e, rfl, hd, he, q1, q2, q3⟩ := h
    refine ⟨_, (pss_cons (ps_set (i := 2) sc_register_of.nd rfl (Or.inl rfl) (pe_call (G_mixed_row T) (hr.mono (by decide)) rfl T.m_mixed_row T.F_mixed_row.kp T.b_mixed_row .nil (passes_call (takes_of rfl rfl rfl rfl) fun _ _ _ _ h => h) (pa_cons (pv 0) pa_nil)))
  (pss_cons (ps_if (PW.pt (pw_or (pt_not (pt_val (pe_callB call_isiT (by rfl) T.z_isinstance (by decide +kernel) (pa_cons (pv 1) (pa_cons (pe_tup (pa_cons (pe_bltn (v := .ty "list") (u := .type "list") (by rfl) T.z_list (by decide +kernel) rfl) (pa_cons (pe_bltn (v := .ty "tuple") (u := .type "tuple") (by rfl) T.z_tuple (by decide +kernel) rfl) pa_nil))) pa_nil))))) (pw_or1 (pt_cmpR op_ne (pe_callB call_len_seq (by rfl) T.z_len (show bootBuiltins "len" = some (.builtin "len") by decide +kernel) (pa_cons (pv 1) pa_nil)) (pe_callB call_len_seq (by rfl) T.z_len (show bootBuiltins "len" = some (.builtin "len") by decide +kernel) (pa_cons (pv 2) pa_nil)) (nomark _))))) (pss_one (ps_raise rfl (takes_of rfl rfl rfl rfl) (pmk_deep T.x_BadSet (.inl rfl) hr (by exact (pa_cons pe_str pa_nil))))) pss_nil)
  (pss_cons (ps_set (i := 3) sc_register_of.nd rfl (Or.inl rfl) (pe_makeN T.k_Zero (by rfl) T.m_Zero))
  (pss_cons (ps_for (passes_of rfl) rfl (pi_zipM (by rfl) T.z_zip (pa_cons (pv 2) (pa_cons (pv 1) pa_nil))) (pg_tup (by rfl) (pgs_cons (pg_name (i := 4) sc_register_of.nd rfl (Or.inl rfl)) (pgs_cons (pg_name (i := 5) sc_register_of.nd rfl (Or.inl rfl)) pgs_nil)))
  (pss_one (ps_set (i := 3) sc_register_of.nd rfl (Or.inl rfl) (pe_make T.k_Mix (G_Mix_init T) (hr.mono (by decide)) rfl T.m_Mix T.b_Mix_init .nil (passes_call (takes_of rfl rfl rfl rfl) fun _ _ _ _ h => h) (pa_cons (pv 3) (pa_cons (pe_ix ix_tup (pv 4) pe_int (fun _ _ => rfl)) (pa_cons (pe_ix ix_tup (pv 4) pe_int (fun _ _ => rfl)) (pa_cons (pv 5) pa_nil))))))))
  (pss_one (ps_ret (pv 3))))))), ?_⟩
    walk_at "rd"
    refine ⟨x, d, rfl, hd, fun row hrow H1 a ps s1 ha hra => ?_, fun n hn H' dd s1 hdd => q1 n hn H' dd s1 hdd⟩
    walk_at "rd"
    refine ⟨by show (2 : Nat) ≤ sizeLine; decide, fun tq htq => ?_⟩
    walk_at "rd"
    have s2 := s1.new (o := .tup [.ty "list", .ty "tuple"]) htq
    have s12 := same_new (o := .tup [.ty "list", .ty "tuple"]) htq
    refine r_isiLT (he.same s2) upd_same ?_
    walk_at "rd"
    obtain ⟨hr16, hrok⟩ := mixedP_ok hrow
    have hlr := hra.length
    cases hse : seqD e with
    | none =>
      refine r_iT rfl (r_iT rfl ?_)
      walk_at "rd"
      exact r_mk1 (by show (5 : Nat) ≤ 1000; decide) fun dd hdd => q2 row hrow (by unfold wordsP; rw [hse]) _ _ (s2.new hdd) upd_same
    | some es =>
      refine r_iF rfl ?_
      walk_at "rd"
      obtain ⟨ky, b, ys, rfl, hqy, hys⟩ := he.seq hse
      refine r_lenK (hqy.same s2) ?_
      walk_at "rd"
      refine r_lenT (.inl (.inl (s12 _ _ ha))) ?_
      walk_at "rd"
      have hly := hys.length
      refine r_ite (fun c => ?_) (fun c => ?_)
      · walk_at "rd"
        refine r_mk1 (by show (5 : Nat) ≤ 1000; decide) fun dd hdd => q2 row hrow ?_ _ _ (s2.new hdd) upd_same
        unfold wordsP; rw [hse]
        refine if_neg fun z => ?_
        simp only [Bool.not_eq_true', decide_eq_false_iff_not, V.int.injEq] at c
        omega
      have hlen : es.length = row.length := by
        simp only [Bool.not_eq_false', decide_eq_true_eq, V.int.injEq] at c
        omega
      obtain ⟨gs, hgs, q⟩ := q3 row es hrow (by unfold wordsP; rw [hse]; exact if_pos hlen)
      walk_at "rd"
      intro z dz hz hdz hne
      walk_at "rd"
      have s3 := s2.trans (same_made (o := .own z) (u := .ins T.C_Zero dz []) hz hdz)
      have s13 := s12.trans (same_made (o := .own z) (u := .ins T.C_Zero dz []) hz hdz)
      have hlg : gs.length = es.length := by have := congrArg List.length hgs; simpa using this.symm
      refine r_forZip (k1 := false) (k2 := ky) (xs := ps) (ys := ys) (by omega) (fun i σ H2 => Same H1 H2 ∧ ∃ wv o4 o5, σ = [some x, some (.ref b), some (.ref a), some wv, o4, o5] ∧ RegAt T.C_Zero T.C_Mix H2 wv (regOf (row.take i) (gs.take i)))
        (.inl (.inl (s13 _ _ ha))) (hqy.same s3) ⟨s13, _, _, _, rfl, ⟨z, dz, rfl, upd_same⟩⟩ (fun i σ H2 p => ⟨.inl (.inl (p.1 _ _ ha)), hqy.same (s1.trans p.1)⟩) ?_ ?_
      · rintro i u v Tp σ H2 hu hv ⟨s4, wv, o4, o5, rfl, hw⟩ hTp
        obtain ⟨m, t, p, hmt, rfl, hp⟩ := hra.get hu
        obtain ⟨ev, hev, Dv⟩ := hys.get hv
        obtain ⟨g, hg, hbo⟩ : ∃ g, gs[i]? = some g ∧ boD ev = some g := by
          have e1 : (es.map boD)[i]? = some (boD ev) := by rw [List.getElem?_map, hev]; rfl
          rw [hgs, List.getElem?_map] at e1
          cases hg : gs[i]? with
          | none => rw [hg] at e1; cases e1
          | some g => rw [hg] at e1; exact ⟨g, rfl, (Option.some.inj e1).symm⟩
        have s5 := s4.new (o := .tup [.ref p, v]) hTp
        obtain ⟨om, ot⟩ := hrok _ (List.mem_of_getElem? hmt)
        refine r_gTup upd_same rfl ?_
        walk_at "rd"
        refine r_ixT (.inl (.inl (s5 _ _ hp))) rfl ?_
        walk_at "rd"
        refine r_ixT (.inl (.inl (s5 _ _ hp))) rfl ?_
        walk_at "rd"
        intro y dy hy hdy hyd
        have s6 := same_made (o := .own y) (u := .ins T.C_Mix dy []) hy hdy
        have hw2 := (hw.same (same_new hTp)).same s6
        refine ⟨y, dy, wv, _, true, _, .int m, _, .int t, v, ev, rfl, upd_same, hw2.ty T, is_reg T _, .int _, .int _, Dv.same ((s1.trans s5).trans s6), fun z => (nomatch z), fun _ z => ?_, fun _ _ z => ?_, fun _ _ _ => ⟨g, hbo, fun H3 f h3 => ⟨rfl, ?_⟩⟩⟩
        · rw [om] at z; cases z
        · rw [ot] at z; cases z
        · walk_at "rd"
          have s7 := f.made hy hdy
          refine ⟨s5.trans s7, _, _, _, rfl, ?_⟩
          rw [regOf_step hmt hg]
          exact ⟨y, dy, wv, rfl, h3, (hw.same (same_new hTp)).same s7⟩
      · rintro σ H2 ⟨s4, wv, o4, o5, rfl, hw⟩
        walk_at "rd"
        rw [hlr, List.take_length, List.take_of_length_le (by omega)] at hw
        exact q _ _ (s1.trans s4) hw
end
end R82
namespace R82
open PySem PySem.Spec PyProof.Rows L2
section
variable {P : Program} {w : World} {K : PySem.W.Frag} {mg : Str → Option Value} {base : Heap} {H H' : Hp}
def rowsOf (r : Reg) : Row := (r.map fun x => (x.1, x.2.1)).reverse
def wordsOf (r : Reg) : List Bool := (r.map fun x => x.2.2).reverse
theorem rowsOf_regOf {row : Row} {gs : List Bool} (h : row.length = gs.length) : rowsOf (regOf row gs) = row := by
  unfold rowsOf regOf
  rw [List.map_reverse, List.reverse_reverse, List.map_map]
  show List.map Prod.fst (row.zip gs) = row
  exact List.map_fst_zip (by omega)
theorem wordsOf_regOf {row : Row} {gs : List Bool} (h : row.length = gs.length) : wordsOf (regOf row gs) = gs := by
  unfold wordsOf regOf
  rw [List.map_reverse, List.reverse_reverse, List.map_map]
  show List.map Prod.snd (row.zip gs) = gs
  exact List.map_snd_zip (by omega)
theorem regOf_inj {row row2 : Row} {gs gs2 : List Bool} (h : row.length = gs.length) (h2 : row2.length = gs2.length) : decide (regOf row gs = regOf row2 gs2) = decide (row = row2 ∧ gs = gs2) := by
  refine decide_eq_decide.mpr ⟨fun e => ⟨?_, ?_⟩, fun e => by rw [e.1, e.2]⟩
  · rw [← rowsOf_regOf h, e, rowsOf_regOf h2]
  · rw [← wordsOf_regOf h, e, wordsOf_regOf h2]
theorem regOf_length {row : Row} {gs : List Bool} (h : row.length = gs.length) : (regOf row gs).length = row.length := by
  unfold regOf
  rw [List.length_reverse, List.length_map, List.length_zip]
  omega
def ToldAt (H : Hp) (u : V) (row : Row) (gs : List Bool) : Prop := ∃ a b c ps, u = .ref a ∧ H a = some (.tup [.ref b, .ref c]) ∧ H b = some (.tup ps) ∧ RowAt H ps row ∧ H c = some (.tup (gs.map V.bl))
def spTold (Z M : Addr) : Sp := fun vs H Q _ => ∃ v r, vs = [v] ∧ RegAt Z M H v r ∧ r.length ≤ 1000 ∧ ∀ H' u, Same H H' → ToldAt H' u (rowsOf r) (wordsOf r) → Q u H'
theorem sc_rows_told : FnScope ["register", "looks", "words", "rest"] ["register"] (defScope s_rows_told) := ⟨rfl, rfl, rfl, by decide +kernel, rfl, by decide +kernel, by decide +kernel⟩
theorem G_rows_told (T : Top P K mg) : FnOk P w K mg base CX0 1 T.a_rows_told T.d_rows_told ["register"] (spTold T.C_Zero T.C_Mix) := by
  refine T.F_rows_told.ok sc_rows_told (fun vs H Q E h => ?_) (fun cdv A outer s H vs Q E hr h => ?_)
  · obtain ⟨v, r, rfl, _⟩ := h; rfl
  · obtain ⟨v, r, rfl, hv, hl, q⟩ := h
    have hsz : (1000 : Nat) < sizeLine := by decide
    refine ⟨_, (pss_cons (ps_set (i := 1) sc_rows_told.nd rfl (Or.inl rfl) (pe_lst pa_nil))
  (pss_cons (ps_set (i := 2) sc_rows_told.nd rfl (Or.inl rfl) (pe_lst pa_nil))
  (pss_cons (ps_set (i := 3) sc_rows_told.nd rfl (Or.inl rfl) (pv 0))
  (pss_cons (ps_while PassesOwn.never (pt_val (pe_callB call_isi (by rfl) T.z_isinstance (show bootBuiltins "isinstance" = some (.builtin "isinstance") by decide +kernel) (pa_cons (pv 3) (pa_cons (pe_glob (v := .ref T.C_Mix) rfl T.m_Mix rfl) pa_nil))))
  (pss_cons (ps_expr (pe_bm PySem.F.plainAttrs_list PySem.F.slot_list_append PySem.F.type_list_append mt_append (pv 1) (pa_cons (pe_tup (pa_cons (pe_fld (pv 3) rfl) (pa_cons (pe_fld (pv 3) rfl) pa_nil))) pa_nil)))
  (pss_cons (ps_expr (pe_bm PySem.F.plainAttrs_list PySem.F.slot_list_append PySem.F.type_list_append mt_append (pv 2) (pa_cons (pe_fld (pv 3) rfl) pa_nil)))
  (pss_one (ps_set (i := 3) sc_rows_told.nd rfl (Or.inl rfl) (pe_fld (pv 3) rfl))))))
  (pss_one (ps_ret (pe_tup (pa_cons (pe_callTy call_tuple_of (by rfl) T.z_tuple (show bootBuiltins "tuple" = some (.type "tuple") by decide +kernel) (pa_cons (pe_revL (pv 1)) pa_nil)) (pa_cons (pe_callTy call_tuple_of (by rfl) T.z_tuple (show bootBuiltins "tuple" = some (.type "tuple") by decide +kernel) (pa_cons (pe_revL (pv 2)) pa_nil)) pa_nil))))))))), ?_⟩
    walk_at "rd"
    refine ⟨by show (0 : Nat) ≤ sizeLine; decide, fun l hl0 => ?_⟩
    walk_at "rd"
    refine ⟨by show (0 : Nat) ≤ sizeLine; decide, fun c hc0 => ?_⟩
    walk_at "rd"
    have s1 := same_new (o := .lst []) hl0
    have s2 := s1.new (o := .lst []) hc0
    have hlc : l ≠ c := ne_of_none (o := .lst []) upd_same hc0
    have hc : H c = none := by rw [upd_ne hlc.symm] at hc0; exact hc0
    refine r_while (fun m σ H1 => ∃ done rem wv ps, r = done ++ rem ∧ m = rem.length ∧ Same H H1 ∧ σ = [some v, some (.ref l), some (.ref c), some wv] ∧ RegAt T.C_Zero T.C_Mix H1 wv rem ∧ H1 l = some (.lst ps) ∧ RowAt H1 ps (done.map fun x => (x.1, x.2.1)) ∧ H1 c = some (.lst ((done.map fun x => x.2.2).map V.bl))) r.length
      ⟨[], r, v, [], rfl, rfl, s2, rfl, hv.same s2, by rw [upd_ne hlc]; exact upd_same, .nil, upd_same⟩ ?_
    rintro m σ H1 ⟨done, rem, wv, ps, hr', rfl, s3, rfl, hw, hps, hrow, hws⟩
    have hdl : done.length ≤ 1000 := by rw [hr', List.length_append] at hl; omega
    walk_at "rd"
    refine r_isi (.own _) (hw.ty T) (is_mix T rem) ?_
    walk_at "rd"
    cases rem with
    | nil =>
      refine r_iF rfl ?_
      walk_at "rd"
      refine r_rev (.inl (.inl hps)) fun p hp => ?_
      walk_at "rd"
      refine r_tupL (.inl (.inl upd_same)) fun p2 hp2 => ?_
      have f2 : Same H1 (upd (upd H1 p (.lst ps.reverse)) p2 (.tup ps.reverse)) := (same_new hp).new hp2
      walk_at "rd"
      refine r_rev (.inl (.inl (f2 _ _ hws))) fun p3 hp3 => ?_
      walk_at "rd"
      refine r_tupL (.inl (.inl upd_same)) fun p4 hp4 => ?_
      walk_at "rd"
      refine ⟨by show (2 : Nat) ≤ sizeLine; decide, fun p5 hp5 => ?_⟩
      have f5 := ((f2.new hp3).new hp4).new (o := .tup [.ref p2, .ref p4]) hp5
      have g2 := (((same_new (o := .lst (((done.map fun x => x.2.2).map V.bl).reverse)) hp3).new (o := .tup (((done.map fun x => x.2.2).map V.bl).reverse)) hp4).new (o := .tup [.ref p2, .ref p4]) hp5)
      refine q _ _ (s3.trans f5) ⟨p5, p2, p4, ps.reverse, rfl, upd_same, g2 _ _ upd_same, ?_, ?_⟩
      · have e : rowsOf r = (done.map fun x => (x.1, x.2.1)).reverse := by rw [hr', List.append_nil]; rfl
        rw [e]
        exact (hrow.keep fun a o e _ => f5 a o e).reverse
      · have e : (wordsOf r).map V.bl = ((done.map fun x => x.2.2).map V.bl).reverse := by
          rw [hr', List.append_nil, ← List.map_reverse]; rfl
        rw [e]
        exact same_new hp5 _ _ upd_same
    | cons x rem =>
      refine r_iT rfl ?_
      obtain ⟨mm, t, g⟩ := x
      obtain ⟨a, dx, vi, rfl, ha, hi⟩ := hw
      refine ⟨fun σ' H' => ∃ m', m' < (((mm, t, g) :: rem).length) ∧ ∃ done rem wv ps, r = done ++ rem ∧ m' = rem.length ∧ Same H H' ∧ σ' = [some v, some (.ref l), some (.ref c), some wv] ∧ RegAt T.C_Zero T.C_Mix H' wv rem ∧ H' l = some (.lst ps) ∧ RowAt H' ps (done.map fun x => (x.1, x.2.1)) ∧ H' c = some (.lst ((done.map fun x => x.2.2).map V.bl)), fun σ' H' h => h, ?_⟩
      walk_at "rd"
      refine ⟨ty_list (.inl (.inl hps)), ?_⟩
      walk_at "rd"
      refine r_fld ha T.cl_Mix T.n_Mix_measurer rfl ?_
      walk_at "rd"
      refine r_fld ha T.cl_Mix T.n_Mix_target rfl ?_
      walk_at "rd"
      refine ⟨by show (2 : Nat) ≤ sizeLine; decide, fun p hp => ?_⟩
      walk_at "rd"
      have hlp : l ≠ p := ne_of_none hps hp
      have hcp : c ≠ p := ne_of_none hws hp
      refine r_append (xs := ps) (by rw [upd_ne hlp]; exact hps) (by rw [hrow.length, List.length_map]; omega) ?_
      walk_at "rd"
      refine ⟨ty_list (.inl (.inl (by rw [upd_ne hlc.symm, upd_ne hcp]; exact hws))), ?_⟩
      walk_at "rd"
      have f1 : Fr [l, c] H1 (upd H1 p (.tup [.int mm, .int t])) := Fr.refl.new hp
      have f2 : Fr [l, c] H1 (upd (upd H1 p (.tup [.int mm, .int t])) l (.lst (ps ++ [.ref p]))) := f1.put (by rw [upd_ne hlp]; exact hps) (by simp)
      refine r_fld (f2.im _ _ ha fun _ z => nomatch z) T.cl_Mix T.n_Mix_good rfl ?_
      walk_at "rd"
      have hws2 : upd (upd H1 p (.tup [.int mm, .int t])) l (.lst (ps ++ [.ref p])) c = some (.lst ((done.map fun x => x.2.2).map V.bl)) := by rw [upd_ne hlc.symm, upd_ne hcp]; exact hws
      refine r_append (xs := (done.map fun x => x.2.2).map V.bl) hws2 (by rw [List.length_map, List.length_map]; omega) ?_
      walk_at "rd"
      have f3 := f2.put (ys := (done.map fun x => x.2.2).map V.bl ++ [.bl g]) hws2 (by simp)
      refine r_fld (f3.im _ _ ha fun _ z => nomatch z) T.cl_Mix T.n_Mix_inner rfl ?_
      walk_at "rd"
      refine ⟨rem.length, by simp, done ++ [(mm, t, g)], rem, vi, ps ++ [.ref p], by rw [hr']; simp, rfl, ((s3.new hp).put hl0).put hc, rfl, hi.keep f3.im, by rw [upd_ne hlc]; exact upd_same, ?_, by rw [List.map_append, List.map_append]; exact upd_same⟩
      rw [List.map_append]
      refine (hrow.keep f3.im).append (.cons ⟨p, rfl, ?_⟩ .nil)
      rw [upd_ne hcp.symm, upd_ne hlp.symm]; exact upd_same
def spClean (T : Top P K mg) : Sp := fun vs H Q E => ∃ x d, vs = [x] ∧ Dp K H x d ∧
  (∀ n, mixedP d = .error n → ∀ H' dd, Same H H' → H' dd = some (.xd [("place", .int n)]) → E (.ref T.C_BadLine) (some dd) H') ∧
  ∀ row, mixedP d = .ok row → ∀ H' v, Same H H' → RegAt T.C_Zero T.C_Mix H' v (regOf row (List.replicate row.length true)) → Q v H'
theorem rowP_of : ∀ {row : Row} {n : Nat}, (∀ p ∈ row, okNum (.int p.1) 7 = true ∧ okNum (.int p.2) 7 = true) → rowP n (row.map pairD) = .ok row
  | [], _, _ => rfl
  | p :: row, n, h => by
    obtain ⟨h1, h2⟩ := h p (by simp)
    show (match lookP (pairD p) with | none => Except.error (n : Int) | some p => match rowP (n + 1) (row.map pairD) with | Except.ok r => Except.ok (p :: r) | Except.error e => Except.error e) = _
    have e : lookP (pairD p) = some p := by
      show (if okNum (.int p.1) 7 && okNum (.int p.2) 7 then some (p.1, p.2) else none) = some p
      rw [h1, h2]; rfl
    rw [e, rowP_of fun q hq => h q (by simp [hq])]
theorem mixedP_of {row : Row} {d : PyData} (hd : seqD d = some (row.map pairD)) (hl : row.length ≤ 16) (h : ∀ p ∈ row, okNum (.int p.1) 7 = true ∧ okNum (.int p.2) 7 = true) : mixedP d = .ok row := by
  unfold mixedP
  rw [hd]
  show (if 16 < (row.map pairD).length then .error (-1) else rowP 0 (row.map pairD)) = _
  rw [if_neg (by rw [List.length_map]; omega)]
  exact rowP_of h
theorem flatten1 (n : Nat) : (List.replicate n [V.bl true]).flatten = (List.replicate n true).map V.bl := by
  induction n with
  | zero => rfl
  | succ n ih => rw [List.replicate_succ, List.flatten_cons, ih]; rfl
theorem dp_bools : ∀ gs : List Bool, DpAll K H (gs.map V.bl) (gs.map PyData.bool)
  | [] => .nil
  | g :: gs => .cons (.bl g) (dp_bools gs)
theorem sc_clean_register : FnScope ["looks", "row"] ["looks"] (defScope s_clean_register) := ⟨rfl, rfl, rfl, by decide +kernel, rfl, by decide +kernel, by decide +kernel⟩
theorem G_clean_register (T : Top P K mg) : FnOk P w K mg base (L2.CX P w) 7 T.a_clean_register T.d_clean_register ["looks"] (spClean T) := by
  refine T.F_clean_register.okX sc_clean_register (fun vs H Q E h => ?_) (fun cdv A outer s H vs Q E hr h => ?_)
  · obtain ⟨x, d, rfl, _⟩ := h; rfl
  · obtain ⟨x, d, rfl, hd, q1, q2⟩ := h
    refine ⟨_, (pss_cons (ps_set (i := 1) sc_clean_register.nd rfl (Or.inl rfl) (pe_call (G_mixed_row T) (hr.mono (by decide)) rfl T.m_mixed_row T.F_mixed_row.kp T.b_mixed_row .nil (passes_call (takes_of rfl rfl rfl rfl) fun _ _ _ _ h => h) (pa_cons (pv 0) pa_nil)))
  (pss_one (ps_ret (pe_call (G_register_of T) (hr.mono (by decide)) rfl T.m_register_of T.F_register_of.kp T.b_register_of .nil (passes_call (takes_of rfl rfl rfl rfl) fun _ _ _ _ h => h) (pa_cons (pv 1) (pa_cons (pe_op op_rep (pe_lst (pa_cons pe_bl pa_nil)) (pe_callB call_len_seq (by rfl) T.z_len (show bootBuiltins "len" = some (.builtin "len") by decide +kernel) (pa_cons (pv 1) pa_nil))) pa_nil)))))), ?_⟩
    walk_at "rd"
    refine ⟨x, d, rfl, hd, fun row hrow H1 a ps s1 ha hra => ?_, fun n hn H' dd s1 hdd => q1 n hn H' dd s1 hdd⟩
    obtain ⟨hr16, hrok⟩ := mixedP_ok hrow
    have hlr := hra.length
    walk_at "rd"
    refine ⟨by show (1 : Nat) ≤ sizeLine; decide, fun l hl => ?_⟩
    walk_at "rd"
    have s2 := same_new (o := .lst [.bl true]) hl
    refine r_lenT (.inl (.inl (s2 _ _ ha))) ?_
    walk_at "rd"
    have hsz : (1000 : Nat) ≤ sizeLine := by decide
    refine ⟨l, ps.length, [.bl true], rfl, rfl, upd_same, by omega, by omega, by rw [Int.toNat_natCast]; show 1 * ps.length ≤ _; omega, fun p hp => ?_⟩
    rw [Int.toNat_natCast, flatten1]
    walk_at "rd"
    have s3 := s2.new (o := .lst ((List.replicate ps.length true).map V.bl)) hp
    have hm : mixedP (.tuple (row.map pairD)) = .ok row := mixedP_of rfl hr16 hrok
    have hb : seqD (.list ((List.replicate ps.length true).map PyData.bool)) = some ((List.replicate ps.length true).map PyData.bool) := rfl
    refine ⟨_, .tuple (row.map pairD), _, .list ((List.replicate ps.length true).map PyData.bool), rfl, .tup (.inl (.inl (s3 _ _ ha))) (hra.keep fun a o e _ => s3 a o e).dp, .lst (.inl (.inl upd_same)) (dp_bools _), fun n hn => ?_, fun row2 hrow2 hw => ?_, fun row2 es hrow2 hw => ?_⟩
    · rw [hm] at hn; cases hn
    · rw [hm] at hrow2; cases hrow2
      unfold wordsP at hw
      rw [hb] at hw
      simp only [List.length_map, List.length_replicate] at hw
      rw [if_pos hlr] at hw; cases hw
    · rw [hm] at hrow2; cases hrow2
      unfold wordsP at hw
      rw [hb] at hw
      simp only [List.length_map, List.length_replicate] at hw
      rw [if_pos hlr] at hw
      cases hw
      refine ⟨List.replicate row.length true, ?_, fun H' v sv hv => q2 row hrow H' v (s1.trans (s3.trans sv)) hv⟩
      rw [hlr, List.map_replicate, List.map_replicate]
      simp [boD]
end
end R82
namespace R82
open PySem PySem.Spec PyProof.Rows L2
section
variable {P : Program} {w : World} {K : PySem.W.Frag} {mg : Str → Option Value} {base : Heap} {H H' : Hp}
def PoolAt (H : Hp) (l : Addr) (n : Nat) : Prop := ∃ ns : List Int, H l = some (.lst (ns.map V.int)) ∧ ns.length ≤ n
theorem PoolAt.mono {l : Addr} {n m : Nat} (h : PoolAt H l n) (k : n ≤ m) : PoolAt H l m := by
  obtain ⟨ns, h1, h2⟩ := h
  exact ⟨ns, h1, by omega⟩
theorem r_poolAdd {l : Addr} {n : Nat} {i : Int} {Q : VK} (h : PoolAt H l n) (hn : n < sizeLine) (q : ∀ H', Off l H H' → PoolAt H' l (n + 1) → Q .non H') : rAppend (.ref l) [.int i] H Q := by
  obtain ⟨ns, h1, h2⟩ := h
  refine r_append (xs := ns.map V.int) h1 (by rw [List.length_map]; omega) (q _ Off.refl.put ⟨ns ++ [i], ?_, by rw [List.length_append]; exact Nat.add_le_add_right h2 1⟩)
  rw [List.map_append]; exact upd_same
def spPool (K : PySem.W.Frag) : Sp := fun vs H Q _ => ∃ (a : Addr) (ns : List Int), vs = [.ref a] ∧ SqL K H a (ns.map V.int) ∧ ns.length ≤ 63 ∧ ∀ l H', Same H H' → H l = none → PoolAt H' l 2520 → Q (.ref l) H'
theorem sc__law_pool : FnScope ["script", "pool", "at", "cell", "side", "k", "seed"] ["script"] (defScope s__law_pool) := ⟨rfl, rfl, rfl, by decide +kernel, rfl, by decide +kernel, by decide +kernel⟩
theorem G__law_pool (T : Top P K mg) : FnOk P w K mg base CX0 1 T.a__law_pool T.d__law_pool ["script"] (spPool K) := by
  refine T.F__law_pool.ok sc__law_pool (fun vs H Q E h => ?_) (fun cdv A outer s H vs Q E hr h => ?_)
  · obtain ⟨a, ns, rfl, _⟩ := h; rfl
  · obtain ⟨a, ns, rfl, ha, hl, q⟩ := h
    refine ⟨_, (pss_cons (ps_set (i := 1) sc__law_pool.nd rfl (Or.inl rfl) (pe_lst pa_nil))
  (pss_cons (ps_for PassesOwn.never rfl (pi_range1 rfl T.z_range (pa_cons (pe_callB (call_min2 rfl) (by rfl) T.z_min (show bootBuiltins "min" = some (.builtin "min") by decide +kernel) (pa_cons (pe_callB call_len_seq (by rfl) T.z_len (show bootBuiltins "len" = some (.builtin "len") by decide +kernel) (pa_cons (pv 0) pa_nil)) (pa_cons pe_int pa_nil))) pa_nil)) (pg_name (i := 2) sc__law_pool.nd rfl (Or.inl rfl))
  (pss_cons (ps_set (i := 3) sc__law_pool.nd rfl (Or.inl rfl) (pe_callTy call_int1 (by rfl) T.z_int (show bootBuiltins "int" = some (.type "int") by decide +kernel) (pa_cons (pe_ix ix_list (pv 0) (pv 2) (fun _ _ => rfl)) pa_nil)))
  (pss_cons (ps_set (i := 4) sc__law_pool.nd rfl (Or.inl rfl) pe_int)
  (pss_cons (ps_if (pt_cmpR op_lt (pv 3) pe_int (nomark _)) (pss_cons (ps_set (i := 4) sc__law_pool.nd rfl (Or.inl rfl) pe_int)
  (pss_one (ps_set (i := 3) sc__law_pool.nd rfl (Or.inl rfl) (pe_op op_sub pe_int (pv 3))))) pss_nil)
  (pss_one (ps_if (pt_cmpR op_ge (pv 3) (pe_op op_pow pe_int pe_int) (nomark _)) (pss_one (ps_for PassesOwn.never rfl (pi_range1 rfl T.z_range (pa_cons pe_int pa_nil)) (pg_name (i := 5) sc__law_pool.nd rfl (Or.inl rfl))
  (pss_one (ps_if (pt_cmpR op_gt (pv 3) pe_int (nomark _)) (pss_cons (ps_expr (pe_bm PySem.F.plainAttrs_list PySem.F.slot_list_append PySem.F.type_list_append mt_append (pv 1) (pa_cons (pe_op op_mod (pe_callTy call_int1 (by rfl) T.z_int (show bootBuiltins "int" = some (.type "int") by decide +kernel) (pa_cons (pv 3) pa_nil)) pe_int) pa_nil)))
  (pss_one (ps_set (i := 3) sc__law_pool.nd rfl (Or.inl rfl) (pe_op op_fdiv (pv 3) pe_int)))) pss_nil)))) (pss_cons (ps_set (i := 6) sc__law_pool.nd rfl (Or.inl rfl) (pe_op op_mod (pe_callTy call_int1 (by rfl) T.z_int (show bootBuiltins "int" = some (.type "int") by decide +kernel) (pa_cons (pe_op op_add (pe_op op_add (pe_op op_add (pe_op op_mul (pv 3) pe_int) (pe_op op_mul (pv 2) pe_int)) (pv 4)) pe_int) pa_nil)) pe_int))
  (pss_one (ps_for PassesOwn.never rfl (pi_range1 rfl T.z_range (pa_cons pe_int pa_nil)) (pg_name (i := 5) sc__law_pool.nd rfl (Or.inl rfl))
  (pss_cons (ps_set (i := 6) sc__law_pool.nd rfl (Or.inl rfl) (pe_op op_mod (pe_callTy call_int1 (by rfl) T.z_int (show bootBuiltins "int" = some (.type "int") by decide +kernel) (pa_cons (pe_op op_add (pe_op op_add (pe_op op_add (pe_op op_mul (pv 6) (pv 6)) (pe_op op_mul pe_int (pv 5))) (pv 2)) pe_int) pa_nil)) pe_int))
  (pss_one (ps_expr (pe_bm PySem.F.plainAttrs_list PySem.F.slot_list_append PySem.F.type_list_append mt_append (pv 1) (pa_cons (pe_op op_mod (pe_callTy call_int1 (by rfl) T.z_int (show bootBuiltins "int" = some (.type "int") by decide +kernel) (pa_cons (pe_op op_fdiv (pv 6) pe_int) pa_nil)) pe_int) pa_nil))))))))))))))
  (pss_cons (ps_expr (pe_bm0 PySem.F.plainAttrs_list PySem.F.slot_list_reverse PySem.F.type_list_reverse mt_reverse (pv 1)))
  (pss_one (ps_ret (pv 1)))))), ?_⟩
    have hsz : (10000 : Nat) < sizeLine := by decide
    walk_at "rd"
    refine ⟨by show (0 : Nat) ≤ sizeLine; decide, fun l hl0 => ?_⟩
    walk_at "rd"
    have s1 := same_new (o := .lst []) hl0
    refine r_lenL (s1.seq ha) ?_
    rw [List.length_map]
    walk_at "rd"
    rw [if_neg (by omega)]
    refine r_forRng (fun i σ H1 => Same H H1 ∧ PoolAt H1 l (40 * i) ∧ ∃ o2 o3 o4 o5 o6, σ = [some (.ref a), some (.ref l), o2, o3, o4, o5, o6]) (by omega) (by omega) ⟨s1, ⟨[], upd_same, by simp⟩, _, _, _, _, _, rfl⟩ ?_ ?_
    · rintro i σ H1 hi ⟨s2, hp, o2, o3, o4, o5, o6, rfl⟩
      rw [Int.toNat_natCast] at hi
      obtain ⟨c, hc⟩ : ∃ c, ns[i]? = some c := ⟨ns[i], List.getElem?_eq_getElem hi⟩
      walk_at "rd"
      refine r_ixL (s2.seq ha) (i := 0 + (i : Int)) (v := .int c) (by rw [Int.zero_add]; exact atI_nat (by rw [List.getElem?_map, hc]; rfl)) ?_
      refine r_int1 ?_
      walk_at "rd"
      have hin : i < 63 := by omega
      refine r_join (fun σ' H' => H' = H1 ∧ ∃ cell side : Int, 0 ≤ side ∧ side ≤ 1 ∧ σ' = [some (.ref a), some (.ref l), some (.int (0 + (i : Int))), some (.int cell), some (.int side), o5, o6]) (fun _ N' hN => ?_) (fun _ N' hN => ?_) ?_
      · walk_at "rd"
        exact hN _ _ ⟨rfl, _, 1, by omega, by omega, rfl⟩
      · walk_at "rd"
        exact hN _ _ ⟨rfl, _, 0, by omega, by omega, rfl⟩
      · rintro σ' H' ⟨rfl, cell, side, h1, h2, rfl⟩
        walk_at "rd"
        have h18 : (10 : Int) ^ Int.toNat 18 = 1000000000000000000 := by decide
        rw [h18]
        refine r_ite (fun c1 => ?_) (fun c1 => ?_)
        · walk_at "rd"
          refine r_forRng (fun j σ H2 => Same H H2 ∧ PoolAt H2 l (40 * i + j) ∧ ∃ (o3 : Int) (o5 : Option V), σ = [some (.ref a), some (.ref l), some (.int (0 + (i : Int))), some (.int o3), some (.int side), o5, o6]) (by omega) (by omega) ⟨s2, hp, _, _, rfl⟩ ?_ ?_
          · rintro j σ H2 hj ⟨s3, hp2, cc, o5, rfl⟩
            have hj : j < 40 := hj
            walk_at "rd"
            refine r_ite (fun c2 => ?_) (fun c2 => ?_)
            · walk_at "rd"
              refine ⟨ty_list (.inl (.inl hp2.choose_spec.1)), ?_⟩
              walk_at "rd"
              refine r_poolAdd hp2 (by omega) fun H3 f3 hp3 => ?_
              walk_at "rd"
              exact ⟨s3.off f3 hl0, hp3, _, _, rfl⟩
            · walk_at "rd"
              exact ⟨s3, hp2.mono (by omega), _, _, rfl⟩
          · rintro σ H2 ⟨s3, hp2, cc, o5, rfl⟩
            exact ⟨s3, hp2.mono (by show 40 * i + 40 ≤ _; omega), _, _, _, _, _, rfl⟩
        · have hcl : cell < 1000000000000000000 := by
            have := of_decide_eq_false c1
            omega
          walk_at "rd"
          refine r_forRng (fun j σ H2 => Same H H2 ∧ PoolAt H2 l (40 * i + j) ∧ ∃ (sd : Int) (o5 : Option V), 0 ≤ sd ∧ sd < 2147483648 ∧ σ = [some (.ref a), some (.ref l), some (.int (0 + (i : Int))), some (.int cell), some (.int side), o5, some (.int sd)]) (by omega) (by omega) ⟨s2, hp, _, _, ?_, ?_, rfl⟩ ?_ ?_
          · omega
          · omega
          · rintro j σ H2 hj ⟨s3, hp2, sd, o5, hs1, hs2, rfl⟩
            have hj : j < 6 := hj
            walk_at "rd"
            refine ⟨ty_list (.inl (.inl hp2.choose_spec.1)), ?_⟩
            walk_at "rd"
            refine r_poolAdd hp2 (by omega) fun H3 f3 hp3 => ?_
            walk_at "rd"
            refine ⟨s3.off f3 hl0, hp3, _, _, ?_, ?_, rfl⟩
            · exact Int.emod_nonneg _ (by decide)
            · have := Int.emod_lt_of_pos (sd * sd + 31 * (0 + (j : Int)) + (0 + (i : Int)) + 3) (show (0 : Int) < 2147483587 by decide)
              omega
          · rintro σ H2 ⟨s3, hp2, sd, o5, hs1, hs2, rfl⟩
            exact ⟨s3, hp2.mono (by show 40 * i + 6 ≤ _; omega), _, _, _, _, _, rfl⟩
    · rintro σ H1 ⟨s2, hp, o2, o3, o4, o5, o6, rfl⟩
      rw [Int.toNat_natCast] at hp
      walk_at "rd"
      obtain ⟨qs, hq1, hq2⟩ := hp
      refine ⟨ty_list (.inl (.inl hq1)), _, _, rfl, rfl, hq1, ?_⟩
      walk_at "rd"
      refine q _ _ (s2.put hl0) hl0 ⟨qs.reverse, ?_, by rw [List.length_reverse]; omega⟩
      rw [List.map_reverse]; exact upd_same
def spNext : Sp := fun vs H Q _ => ∃ (l : Addr) (n : Nat) (m : Int), vs = [.ref l, .int m] ∧ 0 < m ∧ PoolAt H l n ∧ ∀ i H', 0 ≤ i → i < m → Off l H H' → PoolAt H' l n → Q (.int i) H'
theorem sc__law_next : FnScope ["pool", "many"] ["pool", "many"] (defScope s__law_next) := ⟨rfl, rfl, rfl, by decide +kernel, rfl, by decide +kernel, by decide +kernel⟩
theorem G__law_next (T : Top P K mg) : FnOk P w K mg base CX0 1 T.a__law_next T.d__law_next ["pool", "many"] spNext := by
  refine T.F__law_next.ok sc__law_next (fun vs H Q E h => ?_) (fun cdv A outer s H vs Q E hr h => ?_)
  · obtain ⟨l, n, m, rfl, _⟩ := h; rfl
  · obtain ⟨l, n, m, rfl, hm, ⟨ns, h1, h2⟩, q⟩ := h
    refine ⟨_, (pss_cons (ps_if (pt_cmpR op_eq (pe_callB call_len_seq (by rfl) T.z_len (show bootBuiltins "len" = some (.builtin "len") by decide +kernel) (pa_cons (pv 0) pa_nil)) pe_int (nomark _)) (pss_one (ps_ret pe_int)) pss_nil)
  (pss_one (ps_ret (pe_op op_mod (pe_callTy call_int1 (by rfl) T.z_int (show bootBuiltins "int" = some (.type "int") by decide +kernel) (pa_cons (pe_bm0 PySem.F.plainAttrs_list PySem.F.slot_list_pop PySem.F.type_list_pop mt_pop (pv 0)) pa_nil)) (pv 1))))), ?_⟩
    walk_at "rd"
    refine r_lenL (.inl (.inl h1)) ?_
    walk_at "rd"
    refine r_ite (fun c => ?_) (fun c => ?_)
    · walk_at "rd"
      exact q 0 H (by omega) hm Off.refl ⟨ns, h1, h2⟩
    · walk_at "rd"
      have hne : ns ≠ [] := by
        rintro rfl
        exact absurd c (by decide)
      obtain ⟨qs, y, rfl⟩ : ∃ qs y, ns = qs ++ [y] := ⟨ns.dropLast, ns.getLast hne, (List.dropLast_concat_getLast hne).symm⟩
      refine ⟨ty_list (.inl (.inl h1)), _, _, .int y, rfl, rfl, h1, by simp, ?_⟩
      rw [← List.map_dropLast, List.dropLast_concat]
      walk_at "rd"
      exact q _ _ (Int.emod_nonneg _ (by omega)) (Int.emod_lt_of_pos _ hm) Off.refl.put ⟨qs, upd_same, by rw [List.length_append] at h2; simp at h2; omega⟩
def okRow (row : Row) : Prop := ∀ p ∈ row, okNum (.int p.1) 7 = true ∧ okNum (.int p.2) 7 = true
def spRow : Sp := fun vs H Q _ => ∃ (l : Addr) (n : Nat) (size : Int), vs = [.ref l, .int size] ∧ 0 ≤ size ∧ size ≤ 16 ∧ PoolAt H l n ∧ ∀ p xs row H', Off l H H' → H p = none → PoolAt H' l n → H' p = some (.lst xs) → RowAt H' xs row → (row.length : Int) = size → okRow row → Q (.ref p) H'
theorem okNum7 {i : Int} (h : 0 ≤ i) (h2 : i < 8) : okNum (.int i) 7 = true := by
  simp only [okNum, Bool.and_eq_true, decide_eq_true_eq]; omega
theorem sc__law_row : FnScope ["pool", "size", "k"] ["pool", "size"] (defScope s__law_row) := ⟨rfl, rfl, rfl, by decide +kernel, rfl, by decide +kernel, by decide +kernel⟩
theorem G__law_row (T : Top P K mg) : FnOk P w K mg base CX0 2 T.a__law_row T.d__law_row ["pool", "size"] spRow := by
  refine T.F__law_row.ok sc__law_row (fun vs H Q E h => ?_) (fun cdv A outer s H vs Q E hr h => ?_)
  · obtain ⟨l, n, m, rfl, _⟩ := h; rfl
  · obtain ⟨l, n, size, rfl, h1, h2, hp, q⟩ := h
    refine ⟨_, (pss_one (ps_ret (pe_lc (own := [("k", 2)]) (g := gName 2) (tt := tYes) rfl sc__law_row.nd (pi_range1 rfl T.z_range (pa_cons (pv 1) pa_nil)) (blkOk_by (own := [("k", 2)]) (N := ["pool", "size", "k"]) (sc := defScope s__law_row) (by decide +kernel)) (fun _ _ _ _ _ => (pg_name (i := 2) sc__law_row.nd rfl (Or.inl rfl))) (fun _ _ _ _ _ => pts_nil) (fun _ _ _ _ _ => (pe_tup (pa_cons (pe_call (G__law_next T) (hr.mono (by decide)) rfl T.m__law_next T.F__law_next.kp T.b__law_next .nil pass0 (pa_cons (pv 0) (pa_cons pe_int pa_nil))) (pa_cons (pe_call (G__law_next T) (hr.mono (by decide)) rfl T.m__law_next T.F__law_next.kp T.b__law_next .nil pass0 (pa_cons (pv 0) (pa_cons pe_int pa_nil))) pa_nil))))))), ?_⟩
    have hsz : (1000 : Nat) < sizeLine := by decide
    walk_at "rd"
    obtain ⟨ns0, hl0, _⟩ := id hp
    refine r_lcRng (fun D i H1 => Off l H H1 ∧ PoolAt H1 l n ∧ D ≠ l ∧ ∃ xs row, H1 D = some (.lst xs) ∧ RowAt H1 xs row ∧ row.length = i ∧ okRow row) (by omega) (by omega) (fun D hD => ?_) (fun D hD i H1 hi => ?_) (fun D hD H1 => ?_)
    · have hne : D ≠ l := (ne_of_none hl0 hD).symm
      exact ⟨Off.refl.new hD, ⟨ns0, by rw [upd_ne hne.symm]; exact hl0, by assumption⟩, hne, [], [], upd_same, .nil, rfl, fun _ z => absurd z (by simp)⟩
    · rintro ⟨o1, hp1, hne, xs, row, hx, hrow, hlen, hok⟩
      walk_at "rd"
      refine ⟨rfl, ?_⟩
      walk_at "rd"
      refine ⟨l, n, 8, rfl, by omega, hp1, fun i1 H2 a1 b1 o2 hp2 => ?_⟩
      walk_at "rd"
      refine ⟨l, n, 8, rfl, by omega, hp2, fun i2 H3 a2 b2 o3 hp3 => ?_⟩
      walk_at "rd"
      refine ⟨by show (2 : Nat) ≤ sizeLine; decide, fun p hpn => ?_⟩
      obtain ⟨qs, hqs, _⟩ := id hp1
      have o13 : Off l H1 H3 := o2.trans o3
      have hx3 : H3 D = some (.lst xs) := o13 _ _ hne hx
      have hDp : D ≠ p := ne_of_none hx3 hpn
      obtain ⟨q3, hq3, hn3⟩ := id hp3
      have hlp : l ≠ p := ne_of_none hq3 hpn
      have hlx := hrow.length
      refine ⟨xs, by rw [upd_ne hDp]; exact hx3, by omega, fun a o na e => ?_, ⟨q3, by rw [upd_ne hne.symm, upd_ne hlp]; exact hq3, hn3⟩, hne, _, row ++ [(i1, i2)], upd_same, ?_, by rw [List.length_append, hlen]; rfl, fun q hq => ?_⟩
      · have e1 := (o1.trans o13) a o na e
        rw [upd_ne (ne_of_none e hD), upd_ne (ne_of_none e1 hpn)]; exact e1
      · refine RowAt.append (hrow.keep fun a o e n => ?_) (.cons ⟨p, rfl, by rw [upd_ne hDp.symm]; exact upd_same⟩ .nil)
        have e1 := o13.im hqs a o e n
        rw [upd_ne (fun z => by subst z; rw [hx] at e; cases e; exact n _ rfl), upd_ne (ne_of_none e1 hpn)]; exact e1
      · rcases List.mem_append.mp hq with hq | hq
        · exact hok q hq
        · cases List.mem_singleton.mp hq
          exact ⟨okNum7 a1 b1, okNum7 a2 b2⟩
    · rintro ⟨o1, hp1, hne, xs, row, hx, hrow, hlen, hok⟩
      exact q D xs row H1 o1 hD hp1 hx hrow (by omega) hok
def spNumber : Sp := fun vs H Q _ => ∃ i j : Int, vs = [.int i, .int j] ∧ Q (.bl (decide (i = j))) H
theorem dec_intV {i j : Int} : decide (V.int i = V.int j) = decide (i = j) := by simp
theorem dec_blV {i j : Bool} : decide (V.bl i = V.bl j) = decide (i = j) := by simp
theorem sc__law_number : FnScope ["value", "due"] ["value", "due"] (defScope s__law_number) := ⟨rfl, rfl, rfl, by decide +kernel, rfl, by decide +kernel, by decide +kernel⟩
theorem G__law_number (T : Top P K mg) : FnOk P w K mg base CX0 1 T.a__law_number T.d__law_number ["value", "due"] spNumber := by
  refine T.F__law_number.ok sc__law_number (fun vs H Q E h => ?_) (fun cdv A outer s H vs Q E hr h => ?_)
  · obtain ⟨l, n, rfl, _⟩ := h; rfl
  · obtain ⟨i, j, rfl, q⟩ := h
    refine ⟨_, (pss_one (ps_ret (pe_and (pe_callB call_isi (by rfl) T.z_isinstance (show bootBuiltins "isinstance" = some (.builtin "isinstance") by decide +kernel) (pa_cons (pv 0) (pa_cons (pe_bltn (v := .ty "int") (u := .type "int") (by rfl) T.z_int (by decide +kernel) rfl) pa_nil))) (pe_and (pe_not (pe_callB call_isi (by rfl) T.z_isinstance (show bootBuiltins "isinstance" = some (.builtin "isinstance") by decide +kernel) (pa_cons (pv 0) (pa_cons (pe_bltn (v := .ty "bool") (u := .type "bool") (by rfl) T.z_bool (by decide +kernel) rfl) pa_nil)))) (pe_one (pe_cmpR op_eq (pv 0) (pv 1) (nomark _))))))), ?_⟩
    walk_at "rd"
    refine r_isiTy (.int i) (b := true) (by show kitB "int" "int" = some true; decide +kernel) ?_
    walk_at "rd"
    refine r_isiTy (.int i) (b := false) (by show kitB "int" "bool" = some false; decide +kernel) ?_
    walk_at "rd"
    rw [dec_intV]
    exact q
def spSaid : Sp := fun vs H Q _ => ∃ i j : Bool, vs = [.bl i, .bl j] ∧ Q (.bl (decide (i = j))) H
theorem sc__law_said : FnScope ["value", "due"] ["value", "due"] (defScope s__law_said) := ⟨rfl, rfl, rfl, by decide +kernel, rfl, by decide +kernel, by decide +kernel⟩
theorem G__law_said (T : Top P K mg) : FnOk P w K mg base CX0 1 T.a__law_said T.d__law_said ["value", "due"] spSaid := by
  refine T.F__law_said.ok sc__law_said (fun vs H Q E h => ?_) (fun cdv A outer s H vs Q E hr h => ?_)
  · obtain ⟨l, n, rfl, _⟩ := h; rfl
  · obtain ⟨i, j, rfl, q⟩ := h
    refine ⟨_, (pss_one (ps_ret (pe_and (pe_callB call_isi (by rfl) T.z_isinstance (show bootBuiltins "isinstance" = some (.builtin "isinstance") by decide +kernel) (pa_cons (pv 0) (pa_cons (pe_bltn (v := .ty "bool") (u := .type "bool") (by rfl) T.z_bool (by decide +kernel) rfl) pa_nil))) (pe_one (pe_cmpR op_eq (pv 0) (pv 1) (nomark _)))))), ?_⟩
    walk_at "rd"
    refine r_isiTy (.bl i) (b := true) (by show kitB "bool" "bool" = some true; decide +kernel) ?_
    walk_at "rd"
    rw [dec_blV]
    exact q
/-- looks and words as the law holds them -/
structure Lw (K : PySem.W.Frag) (H : Hp) (lk wd : Addr) (row : Row) (gs : List Bool) : Prop where
  ex : ∃ xs, SqL K H lk xs ∧ RowAt H xs row
  ws : SqL K H wd (gs.map V.bl)
  len : row.length = gs.length
  small : row.length ≤ 1000
def spIsReg (T : Top P K mg) : Sp := fun vs H Q _ => ∃ (v : V) (lk wd : Addr) (row : Row) (gs : List Bool), vs = [v, .ref lk, .ref wd] ∧ Lw K H lk wd row gs ∧ RegAt T.C_Zero T.C_Mix H v (regOf row gs) ∧ Q (.bl true) H
theorem sc__law_is_register : FnScope ["told", "looks", "words", "at", "k"] ["told", "looks", "words"] (defScope s__law_is_register) := ⟨rfl, rfl, rfl, by decide +kernel, rfl, by decide +kernel, by decide +kernel⟩
theorem G__law_is_register (T : Top P K mg) : FnOk P w K mg base CX0 2 T.a__law_is_register T.d__law_is_register ["told", "looks", "words"] (spIsReg T) := by
  refine T.F__law_is_register.ok sc__law_is_register (fun vs H Q E h => ?_) (fun cdv A outer s H vs Q E hr h => ?_)
  · obtain ⟨l, n, _, _, _, rfl, _⟩ := h; rfl
  · obtain ⟨v, lk, wd, row, gs, rfl, ⟨⟨xs, hx, hrow⟩, hws, hlen, hsm⟩, hv, q⟩ := h
    refine ⟨_, (pss_cons (ps_set (i := 3) sc__law_is_register.nd rfl (Or.inl rfl) (pe_op op_sub (pe_callB call_len_seq (by rfl) T.z_len (show bootBuiltins "len" = some (.builtin "len") by decide +kernel) (pa_cons (pv 1) pa_nil)) pe_int))
  (pss_cons (ps_for PassesOwn.never rfl (pi_range1 rfl T.z_range (pa_cons (pe_callB call_len_seq (by rfl) T.z_len (show bootBuiltins "len" = some (.builtin "len") by decide +kernel) (pa_cons (pv 1) pa_nil)) pa_nil)) (pg_name (i := 4) sc__law_is_register.nd rfl (Or.inl rfl))
  (pss_cons (ps_if (PW.pt (pw_or (pt_not (pt_val (pe_callB call_isi (by rfl) T.z_isinstance (show bootBuiltins "isinstance" = some (.builtin "isinstance") by decide +kernel) (pa_cons (pv 0) (pa_cons (pe_glob (v := .ref T.C_Mix) rfl T.m_Mix rfl) pa_nil))))) (pw_or (pt_not (pt_val (pe_callB call_isi (by rfl) T.z_isinstance (show bootBuiltins "isinstance" = some (.builtin "isinstance") by decide +kernel) (pa_cons (pv 0) (pa_cons (pe_glob (v := .ref T.C_Register) rfl T.m_Register rfl) pa_nil))))) (pw_or1 (pt_val (pe_callB call_isi (by rfl) T.z_isinstance (show bootBuiltins "isinstance" = some (.builtin "isinstance") by decide +kernel) (pa_cons (pv 0) (pa_cons (pe_glob (v := .ref T.C_Zero) rfl T.m_Zero rfl) pa_nil)))))))) (pss_one (ps_ret pe_bl)) pss_nil)
  (pss_cons (ps_if (PW.pt (pw_or (pt_not (pt_val (pe_call (G__law_number T) (hr.mono (by decide)) rfl T.m__law_number T.F__law_number.kp T.b__law_number .nil pass0 (pa_cons (pe_fld (pv 0) rfl) (pa_cons (pe_ix ix_tup (pe_ix ix_list (pv 1) (pv 3) (fun _ _ => rfl)) pe_int (fun _ _ => rfl)) pa_nil))))) (pw_or1 (pt_not (pt_val (pe_call (G__law_number T) (hr.mono (by decide)) rfl T.m__law_number T.F__law_number.kp T.b__law_number .nil pass0 (pa_cons (pe_fld (pv 0) rfl) (pa_cons (pe_ix ix_tup (pe_ix ix_list (pv 1) (pv 3) (fun _ _ => rfl)) pe_int (fun _ _ => rfl)) pa_nil)))))))) (pss_one (ps_ret pe_bl)) pss_nil)
  (pss_cons (ps_if (PW.pt (pw_or (pt_not (pt_val (pe_callB call_isi (by rfl) T.z_isinstance (show bootBuiltins "isinstance" = some (.builtin "isinstance") by decide +kernel) (pa_cons (pe_fld (pv 0) rfl) (pa_cons (pe_bltn (v := .ty "bool") (u := .type "bool") (by rfl) T.z_bool (by decide +kernel) rfl) pa_nil))))) (pw_or1 (pt_cmpR op_ne (pe_fld (pv 0) rfl) (pe_ix ix_list (pv 2) (pv 3) (fun _ _ => rfl)) (nomark _))))) (pss_one (ps_ret pe_bl)) pss_nil)
  (pss_cons (ps_set (i := 0) sc__law_is_register.nd rfl (Or.inl rfl) (pe_fld (pv 0) rfl))
  (pss_one (ps_set (i := 3) sc__law_is_register.nd rfl (Or.inl rfl) (pe_op op_sub (pv 3) pe_int))))))))
  (pss_one (ps_ret (pe_and (pe_callB call_isi (by rfl) T.z_isinstance (show bootBuiltins "isinstance" = some (.builtin "isinstance") by decide +kernel) (pa_cons (pv 0) (pa_cons (pe_glob (v := .ref T.C_Zero) rfl T.m_Zero rfl) pa_nil))) (pe_and (pe_callB call_isi (by rfl) T.z_isinstance (show bootBuiltins "isinstance" = some (.builtin "isinstance") by decide +kernel) (pa_cons (pv 0) (pa_cons (pe_glob (v := .ref T.C_Register) rfl T.m_Register rfl) pa_nil))) (pe_one (pe_not (pe_callB call_isi (by rfl) T.z_isinstance (show bootBuiltins "isinstance" = some (.builtin "isinstance") by decide +kernel) (pa_cons (pv 0) (pa_cons (pe_glob (v := .ref T.C_Mix) rfl T.m_Mix rfl) pa_nil))))))))))), ?_⟩
    have hlx := hrow.length
    walk_at "rd"
    refine r_lenL hx ?_
    walk_at "rd"
    refine r_lenL hx ?_
    refine r_forRng (fun k σ H1 => H1 = H ∧ ∃ tv at_ o, σ = [some tv, some (.ref lk), some (.ref wd), some (.int at_), o] ∧ at_ + k = row.length - 1 ∧ RegAt T.C_Zero T.C_Mix H tv (regOf (row.take (row.length - k)) (gs.take (row.length - k)))) (by omega) (by omega) ⟨rfl, _, _, _, rfl, by rw [hlx]; omega, ?_⟩ ?_ ?_
    · rw [Nat.sub_zero, List.take_length, List.take_of_length_le (by omega)]; exact hv
    · rintro k σ H1 hk ⟨rfl, tv, at_, o, rfl, hat, ht⟩
      rw [Int.toNat_natCast] at hk
      obtain ⟨j, hj⟩ : ∃ j : Nat, at_ = j ∧ row.length - k = j + 1 := ⟨row.length - 1 - k, by omega, by omega⟩
      obtain ⟨rfl, hj⟩ := hj
      obtain ⟨mt, hmt⟩ : ∃ mt, row[j]? = some mt := ⟨_, List.getElem?_eq_getElem (by omega)⟩
      obtain ⟨g, hg⟩ : ∃ g, gs[j]? = some g := ⟨_, List.getElem?_eq_getElem (by omega)⟩
      obtain ⟨m, t⟩ := mt
      rw [hj, regOf_step hmt hg] at ht
      have hty := ht.ty T
      obtain ⟨a, dx, vi, rfl, ha, hi⟩ := ht
      obtain ⟨x, hxj⟩ : ∃ x, xs[j]? = some x := ⟨_, List.getElem?_eq_getElem (by omega)⟩
      obtain ⟨m', t', p, hmt', rfl, hp⟩ := hrow.get hxj
      rw [hmt] at hmt'
      cases hmt'
      walk_at "rd"
      refine r_isi (.own _) hty T.is_Mix_Mix ?_
      walk_at "rd"
      refine r_isi (.own _) hty T.is_Mix_Register ?_
      walk_at "rd"
      refine r_isi (.own _) hty T.is_Mix_Zero ?_
      walk_at "rd"
      refine r_fld ha T.cl_Mix T.n_Mix_measurer rfl ?_
      walk_at "rd"
      refine r_ixL hx (atI_nat hxj) ?_
      walk_at "rd"
      refine r_ixT (.inl (.inl hp)) rfl ?_
      walk_at "rd"
      refine ⟨m, m, rfl, ?_⟩
      walk_at "rd"
      rw [decide_eq_true (rfl : m = m)]
      walk_at "rd"
      refine r_fld ha T.cl_Mix T.n_Mix_target rfl ?_
      walk_at "rd"
      refine r_ixL hx (atI_nat hxj) ?_
      walk_at "rd"
      refine r_ixT (.inl (.inl hp)) rfl ?_
      walk_at "rd"
      refine ⟨t, t, rfl, ?_⟩
      walk_at "rd"
      rw [decide_eq_true (rfl : t = t)]
      walk_at "rd"
      refine r_fld ha T.cl_Mix T.n_Mix_good rfl ?_
      walk_at "rd"
      refine r_isiTy (.bl g) (b := true) (by show kitB "bool" "bool" = some true; decide +kernel) ?_
      walk_at "rd"
      refine r_fld ha T.cl_Mix T.n_Mix_good rfl ?_
      walk_at "rd"
      refine r_ixL hws (atI_nat (v := .bl g) (by rw [List.getElem?_map, hg]; rfl)) ?_
      walk_at "rd"
      rw [decide_eq_true (rfl : V.bl g = V.bl g)]
      walk_at "rd"
      refine r_fld ha T.cl_Mix T.n_Mix_inner rfl ?_
      walk_at "rd"
      refine ⟨rfl, _, _, _, rfl, by omega, ?_⟩
      rw [show row.length - (k + 1) = j by omega]
      exact hi
    · rintro σ H1 ⟨rfl, tv, at_, o, rfl, hat, ht⟩
      rw [Int.toNat_natCast, hlx, Nat.sub_self] at ht
      have ht : RegAt T.C_Zero T.C_Mix H1 tv [] := ht
      have hty := ht.ty T
      walk_at "rd"
      refine r_isi (.own _) hty T.is_Zero_Zero ?_
      walk_at "rd"
      refine r_isi (.own _) hty T.is_Zero_Register ?_
      walk_at "rd"
      refine r_isi (.own _) hty T.is_Zero_Mix ?_
      walk_at "rd"
      exact q
def spLTold (K : PySem.W.Frag) : Sp := fun vs H Q _ => ∃ (v : V) (lk wd : Addr) (row : Row) (gs : List Bool), vs = [v, .ref lk, .ref wd] ∧ Lw K H lk wd row gs ∧ ToldAt H v row gs ∧ Q (.bl true) H
theorem kTT (a : Addr) {xs : List V} (h : H a = some (.tup xs)) : TyX K H (.ref a) (.type "tuple") := .base (.tup h)
theorem r_isiTup {a : Addr} {xs : List V} {Q : VK} (h : H a = some (.tup xs)) (q : Q (.bl true) H) : rIsi K [.ref a, .ty "tuple"] H Q := r_isi (.ty _) (kTT a h) (kit_ty (by show kitB "tuple" "tuple" = some true; decide +kernel)) q
theorem sc__law_told : FnScope ["told", "looks", "words", "k"] ["told", "looks", "words"] (defScope s__law_told) := ⟨rfl, rfl, rfl, by decide +kernel, rfl, by decide +kernel, by decide +kernel⟩
theorem G__law_told (T : Top P K mg) : FnOk P w K mg base CX0 2 T.a__law_told T.d__law_told ["told", "looks", "words"] (spLTold K) := by
  refine T.F__law_told.ok sc__law_told (fun vs H Q E h => ?_) (fun cdv A outer s H vs Q E hr h => ?_)
  · obtain ⟨l, n, _, _, _, rfl, _⟩ := h; rfl
  · obtain ⟨v, lk, wd, row, gs, rfl, ⟨⟨xs, hx, hrow⟩, hws, hlen, hsm⟩, ⟨a, b, c, ps, rfl, ha, hb, hps, hc⟩, q⟩ := h
    refine ⟨_, (pss_cons (ps_if (PW.pt (pw_or (pt_not (pt_val (pe_callB call_isi (by rfl) T.z_isinstance (show bootBuiltins "isinstance" = some (.builtin "isinstance") by decide +kernel) (pa_cons (pv 0) (pa_cons (pe_bltn (v := .ty "tuple") (u := .type "tuple") (by rfl) T.z_tuple (by decide +kernel) rfl) pa_nil))))) (pw_or1 (pt_cmpR op_ne (pe_callB call_len_seq (by rfl) T.z_len (show bootBuiltins "len" = some (.builtin "len") by decide +kernel) (pa_cons (pv 0) pa_nil)) pe_int (nomark _))))) (pss_one (ps_ret pe_bl)) pss_nil)
  (pss_cons (ps_if (PW.pt (pw_or (pt_not (pt_val (pe_callB call_isi (by rfl) T.z_isinstance (show bootBuiltins "isinstance" = some (.builtin "isinstance") by decide +kernel) (pa_cons (pe_ix ix_tup (pv 0) pe_int (fun _ _ => rfl)) (pa_cons (pe_bltn (v := .ty "tuple") (u := .type "tuple") (by rfl) T.z_tuple (by decide +kernel) rfl) pa_nil))))) (pw_or1 (pt_not (pt_val (pe_callB call_isi (by rfl) T.z_isinstance (show bootBuiltins "isinstance" = some (.builtin "isinstance") by decide +kernel) (pa_cons (pe_ix ix_tup (pv 0) pe_int (fun _ _ => rfl)) (pa_cons (pe_bltn (v := .ty "tuple") (u := .type "tuple") (by rfl) T.z_tuple (by decide +kernel) rfl) pa_nil)))))))) (pss_one (ps_ret pe_bl)) pss_nil)
  (pss_cons (ps_if (PW.pt (pw_or (pt_cmpR op_ne (pe_callB call_len_seq (by rfl) T.z_len (show bootBuiltins "len" = some (.builtin "len") by decide +kernel) (pa_cons (pe_ix ix_tup (pv 0) pe_int (fun _ _ => rfl)) pa_nil)) (pe_callB call_len_seq (by rfl) T.z_len (show bootBuiltins "len" = some (.builtin "len") by decide +kernel) (pa_cons (pv 1) pa_nil)) (nomark _)) (pw_or1 (pt_cmpR op_ne (pe_callB call_len_seq (by rfl) T.z_len (show bootBuiltins "len" = some (.builtin "len") by decide +kernel) (pa_cons (pe_ix ix_tup (pv 0) pe_int (fun _ _ => rfl)) pa_nil)) (pe_callB call_len_seq (by rfl) T.z_len (show bootBuiltins "len" = some (.builtin "len") by decide +kernel) (pa_cons (pv 1) pa_nil)) (nomark _))))) (pss_one (ps_ret pe_bl)) pss_nil)
  (pss_cons (ps_for PassesOwn.never rfl (pi_range1 rfl T.z_range (pa_cons (pe_callB call_len_seq (by rfl) T.z_len (show bootBuiltins "len" = some (.builtin "len") by decide +kernel) (pa_cons (pv 1) pa_nil)) pa_nil)) (pg_name (i := 3) sc__law_told.nd rfl (Or.inl rfl))
  (pss_cons (ps_if (PW.pt (pw_or (pt_not (pt_val (pe_callB call_isi (by rfl) T.z_isinstance (show bootBuiltins "isinstance" = some (.builtin "isinstance") by decide +kernel) (pa_cons (pe_ix ix_tup (pe_ix ix_tup (pv 0) pe_int (fun _ _ => rfl)) (pv 3) (fun _ _ => rfl)) (pa_cons (pe_bltn (v := .ty "tuple") (u := .type "tuple") (by rfl) T.z_tuple (by decide +kernel) rfl) pa_nil))))) (pw_or (pt_cmpR op_ne (pe_callB call_len_seq (by rfl) T.z_len (show bootBuiltins "len" = some (.builtin "len") by decide +kernel) (pa_cons (pe_ix ix_tup (pe_ix ix_tup (pv 0) pe_int (fun _ _ => rfl)) (pv 3) (fun _ _ => rfl)) pa_nil)) pe_int (nomark _)) (pw_or1 (pt_not (pt_val (pe_callB call_isi (by rfl) T.z_isinstance (show bootBuiltins "isinstance" = some (.builtin "isinstance") by decide +kernel) (pa_cons (pe_ix ix_tup (pe_ix ix_tup (pv 0) pe_int (fun _ _ => rfl)) (pv 3) (fun _ _ => rfl)) (pa_cons (pe_bltn (v := .ty "bool") (u := .type "bool") (by rfl) T.z_bool (by decide +kernel) rfl) pa_nil))))))))) (pss_one (ps_ret pe_bl)) pss_nil)
  (pss_cons (ps_if (PW.pt (pw_or (pt_not (pt_val (pe_call (G__law_number T) (hr.mono (by decide)) rfl T.m__law_number T.F__law_number.kp T.b__law_number .nil pass0 (pa_cons (pe_ix ix_tup (pe_ix ix_tup (pe_ix ix_tup (pv 0) pe_int (fun _ _ => rfl)) (pv 3) (fun _ _ => rfl)) pe_int (fun _ _ => rfl)) (pa_cons (pe_ix ix_tup (pe_ix ix_list (pv 1) (pv 3) (fun _ _ => rfl)) pe_int (fun _ _ => rfl)) pa_nil))))) (pw_or1 (pt_not (pt_val (pe_call (G__law_number T) (hr.mono (by decide)) rfl T.m__law_number T.F__law_number.kp T.b__law_number .nil pass0 (pa_cons (pe_ix ix_tup (pe_ix ix_tup (pe_ix ix_tup (pv 0) pe_int (fun _ _ => rfl)) (pv 3) (fun _ _ => rfl)) pe_int (fun _ _ => rfl)) (pa_cons (pe_ix ix_tup (pe_ix ix_list (pv 1) (pv 3) (fun _ _ => rfl)) pe_int (fun _ _ => rfl)) pa_nil)))))))) (pss_one (ps_ret pe_bl)) pss_nil)
  (pss_one (ps_if (pt_cmpR op_ne (pe_ix ix_tup (pe_ix ix_tup (pv 0) pe_int (fun _ _ => rfl)) (pv 3) (fun _ _ => rfl)) (pe_ix ix_list (pv 2) (pv 3) (fun _ _ => rfl)) (nomark _)) (pss_one (ps_ret pe_bl)) pss_nil)))))
  (pss_one (ps_ret pe_bl)))))), ?_⟩
    have hlx := hrow.length
    have hlp := hps.length
    have hA : SqT K H a [.ref b, .ref c] := .inl (.inl ha)
    have hB : SqT K H b ps := .inl (.inl hb)
    have hC : SqT K H c (gs.map V.bl) := .inl (.inl hc)
    walk_at "rd"
    refine r_isiTup ha ?_
    walk_at "rd"
    refine r_lenT hA ?_
    walk_at "rd"
    refine r_ixT hA rfl ?_
    walk_at "rd"
    refine r_isiTup hb ?_
    walk_at "rd"
    refine r_ixT hA rfl ?_
    walk_at "rd"
    refine r_isiTup hc ?_
    walk_at "rd"
    refine r_ixT hA rfl ?_
    walk_at "rd"
    refine r_lenT hB ?_
    walk_at "rd"
    refine r_lenL hx ?_
    walk_at "rd"
    refine r_iF (by rw [hlp, hlx]; simp) ?_
    walk_at "rd"
    refine r_ixT hA rfl ?_
    walk_at "rd"
    refine r_lenT hC ?_
    walk_at "rd"
    refine r_lenL hx ?_
    walk_at "rd"
    refine r_iF (by rw [List.length_map, ← hlen, hlx]; simp) ?_
    walk_at "rd"
    refine r_lenL hx ?_
    refine r_forRng (fun k σ H1 => H1 = H ∧ ∃ o, σ = [some (.ref a), some (.ref lk), some (.ref wd), o]) (by omega) (by omega) ⟨rfl, _, rfl⟩ ?_ ?_
    · rintro k σ H1 hk ⟨rfl, o, rfl⟩
      rw [Int.toNat_natCast] at hk
      obtain ⟨mt, hmt⟩ : ∃ mt, row[k]? = some mt := ⟨_, List.getElem?_eq_getElem (by omega)⟩
      obtain ⟨g, hg⟩ : ∃ g, gs[k]? = some g := ⟨_, List.getElem?_eq_getElem (by omega)⟩
      obtain ⟨m, t⟩ := mt
      obtain ⟨x, hxj⟩ : ∃ x, xs[k]? = some x := ⟨_, List.getElem?_eq_getElem (by omega)⟩
      obtain ⟨y, hyj⟩ : ∃ y, ps[k]? = some y := ⟨_, List.getElem?_eq_getElem (by omega)⟩
      obtain ⟨m', t', p, hmt', rfl, hp⟩ := hrow.get hxj
      rw [hmt] at hmt'; cases hmt'
      obtain ⟨m', t', p2, hmt', rfl, hp2⟩ := hps.get hyj
      rw [hmt] at hmt'; cases hmt'
      have eX : atI xs (0 + (k : Int)) = some (.ref p) := by rw [Int.zero_add]; exact atI_nat hxj
      have eY : atI ps (0 + (k : Int)) = some (.ref p2) := by rw [Int.zero_add]; exact atI_nat hyj
      have eG : atI (gs.map V.bl) (0 + (k : Int)) = some (.bl g) := by rw [Int.zero_add]; exact atI_nat (by rw [List.getElem?_map, hg]; rfl)
      have hP : SqT K H1 p [.int m, .int t] := .inl (.inl hp)
      have hP2 : SqT K H1 p2 [.int m, .int t] := .inl (.inl hp2)
      walk_at "rd"
      refine r_ixT hA rfl ?_
      walk_at "rd"
      refine r_ixT hB eY ?_
      walk_at "rd"
      refine r_isiTup hp2 ?_
      walk_at "rd"
      refine r_ixT hA rfl ?_
      walk_at "rd"
      refine r_ixT hB eY ?_
      walk_at "rd"
      refine r_lenT hP2 ?_
      walk_at "rd"
      refine r_ixT hA rfl ?_
      walk_at "rd"
      refine r_ixT hC eG ?_
      walk_at "rd"
      refine r_isiTy (.bl g) (b := true) (by show kitB "bool" "bool" = some true; decide +kernel) ?_
      walk_at "rd"
      refine r_ixT hA rfl ?_
      walk_at "rd"
      refine r_ixT hB eY ?_
      walk_at "rd"
      refine r_ixT hP2 rfl ?_
      walk_at "rd"
      refine r_ixL hx eX ?_
      walk_at "rd"
      refine r_ixT hP rfl ?_
      walk_at "rd"
      refine ⟨m, m, rfl, ?_⟩
      walk_at "rd"
      rw [decide_eq_true (rfl : m = m)]
      walk_at "rd"
      refine r_ixT hA rfl ?_
      walk_at "rd"
      refine r_ixT hB eY ?_
      walk_at "rd"
      refine r_ixT hP2 rfl ?_
      walk_at "rd"
      refine r_ixL hx eX ?_
      walk_at "rd"
      refine r_ixT hP rfl ?_
      walk_at "rd"
      refine ⟨t, t, rfl, ?_⟩
      walk_at "rd"
      rw [decide_eq_true (rfl : t = t)]
      walk_at "rd"
      refine r_ixT hA rfl ?_
      walk_at "rd"
      refine r_ixT hC eG ?_
      walk_at "rd"
      refine r_ixL hws eG ?_
      walk_at "rd"
      rw [decide_eq_true (rfl : V.bl g = V.bl g)]
      walk_at "rd"
      exact ⟨rfl, _, rfl⟩
    · rintro σ H1 ⟨rfl, o, rfl⟩
      walk_at "rd"
      exact q
def spBuilt (T : Top P K mg) : Sp := fun vs H Q _ => ∃ (lk wd : Addr) (row : Row) (gs : List Bool), vs = [.ref lk, .ref wd] ∧ Lw K H lk wd row gs ∧ okRow row ∧ ∀ v H', Same H H' → RegAt T.C_Zero T.C_Mix H' v (regOf row gs) → Q v H'
theorem sc__law_built : FnScope ["looks", "words", "register", "k"] ["looks", "words"] (defScope s__law_built) := ⟨rfl, rfl, rfl, by decide +kernel, rfl, by decide +kernel, by decide +kernel⟩
theorem G__law_built (T : Top P K mg) : FnOk P w K mg base CX0 5 T.a__law_built T.d__law_built ["looks", "words"] (spBuilt T) := by
  refine T.F__law_built.ok sc__law_built (fun vs H Q E h => ?_) (fun cdv A outer s H vs Q E hr h => ?_)
  · obtain ⟨l, n, _, _, rfl, _⟩ := h; rfl
  · obtain ⟨lk, wd, row, gs, rfl, ⟨⟨xs, hx, hrow⟩, hws, hlen, hsm⟩, hok, q⟩ := h
    refine ⟨_, (pss_cons (ps_set (i := 2) sc__law_built.nd rfl (Or.inl rfl) (pe_makeN T.k_Zero (by rfl) T.m_Zero))
  (pss_cons (ps_for PassesOwn.never rfl (pi_range1 rfl T.z_range (pa_cons (pe_callB call_len_seq (by rfl) T.z_len (show bootBuiltins "len" = some (.builtin "len") by decide +kernel) (pa_cons (pv 0) pa_nil)) pa_nil)) (pg_name (i := 3) sc__law_built.nd rfl (Or.inl rfl))
  (pss_one (ps_set (i := 2) sc__law_built.nd rfl (Or.inl rfl) (pe_make T.k_Mix (G_Mix_init T) (hr.mono (by decide)) rfl T.m_Mix T.b_Mix_init .nil passN (pa_cons (pv 2) (pa_cons (pe_ix ix_tup (pe_ix ix_list (pv 0) (pv 3) (fun _ _ => rfl)) pe_int (fun _ _ => rfl)) (pa_cons (pe_ix ix_tup (pe_ix ix_list (pv 0) (pv 3) (fun _ _ => rfl)) pe_int (fun _ _ => rfl)) (pa_cons (pe_ix ix_list (pv 1) (pv 3) (fun _ _ => rfl)) pa_nil))))))))
  (pss_one (ps_ret (pv 2))))), ?_⟩
    have hlx := hrow.length
    walk_at "rd"
    intro z dz hz hdz hne
    have s1 := same_made (o := .own z) (u := .ins T.C_Zero dz []) hz hdz
    walk_at "rd"
    refine r_lenL (s1.seq hx) ?_
    refine r_forRng (fun i σ H1 => Same H H1 ∧ ∃ wv o, σ = [some (.ref lk), some (.ref wd), some wv, o] ∧ RegAt T.C_Zero T.C_Mix H1 wv (regOf (row.take i) (gs.take i))) (by omega) (by omega) ⟨s1, _, _, rfl, ⟨z, dz, rfl, upd_same⟩⟩ ?_ ?_
    · rintro i σ H2 hi ⟨s2, wv, o, rfl, hw⟩
      rw [Int.toNat_natCast] at hi
      obtain ⟨mt, hmt⟩ : ∃ mt, row[i]? = some mt := ⟨_, List.getElem?_eq_getElem (by omega)⟩
      obtain ⟨g, hg⟩ : ∃ g, gs[i]? = some g := ⟨_, List.getElem?_eq_getElem (by omega)⟩
      obtain ⟨m, t⟩ := mt
      obtain ⟨x, hxj⟩ : ∃ x, xs[i]? = some x := ⟨_, List.getElem?_eq_getElem (by omega)⟩
      obtain ⟨m', t', p, hmt', rfl, hp⟩ := hrow.get hxj
      rw [hmt] at hmt'; cases hmt'
      have eX : atI xs (0 + (i : Int)) = some (.ref p) := by rw [Int.zero_add]; exact atI_nat hxj
      have eG : atI (gs.map V.bl) (0 + (i : Int)) = some (.bl g) := by rw [Int.zero_add]; exact atI_nat (by rw [List.getElem?_map, hg]; rfl)
      obtain ⟨om, ot⟩ := hok _ (List.mem_of_getElem? hmt)
      walk_at "rd"
      refine r_ixL (s2.seq hx) eX ?_
      walk_at "rd"
      refine r_ixT (.inl (.inl (s2 _ _ hp))) rfl ?_
      walk_at "rd"
      refine r_ixL (s2.seq hx) eX ?_
      walk_at "rd"
      refine r_ixT (.inl (.inl (s2 _ _ hp))) rfl ?_
      walk_at "rd"
      refine r_ixL (s2.seq hws) eG ?_
      walk_at "rd"
      intro y dy hy hdy hyd
      have s6 := same_made (o := .own y) (u := .ins T.C_Mix dy []) hy hdy
      have hw2 := hw.same s6
      refine ⟨y, dy, wv, _, true, _, .int m, _, .int t, .bl g, .bool g, rfl, upd_same, hw2.ty T, is_reg T _, .int _, .int _, .bl _, fun z => (nomatch z), fun _ z => ?_, fun _ _ z => ?_, fun _ _ _ => ⟨g, rfl, fun H3 f h3 => ⟨rfl, ?_⟩⟩⟩
      · rw [om] at z; cases z
      · rw [ot] at z; cases z
      · walk_at "rd"
        have s7 := f.made hy hdy
        refine ⟨s2.trans s7, _, _, rfl, ?_⟩
        rw [regOf_step hmt hg]
        exact ⟨y, dy, wv, rfl, h3, hw.same s7⟩
    · rintro σ H2 ⟨s2, wv, o, rfl, hw⟩
      rw [Int.toNat_natCast, hlx, List.take_length, List.take_of_length_le (by omega)] at hw
      walk_at "rd"
      exact q _ _ s2 hw
end
end R82
namespace R82
open PySem PySem.Spec PyProof.Rows L2
section
variable {P : Program} {w : World} {K : PySem.W.Frag} {mg : Str → Option Value} {base : Heap} {H H' : Hp}
/-- what _law_refused answers, where register_of refuses -/
def refP (d e : PyData) : Option PyData := match mixedP d with
  | .error n => some (.list [.str "line", .int n])
  | .ok row => match wordsP e row.length with
    | none => some (.list [.str "set", .str "words"])
    | some _ => none
def spRefused (K : PySem.W.Frag) : Sp := fun vs H Q _ => ∃ x d y e r, vs = [x, y] ∧ Dp K H x d ∧ Dp K H y e ∧ refP d e = some r ∧ ∀ u H', Same H H' → Dp K H' u r → Q u H'
theorem sc__law_refused : FnScope ["looks", "words", "why"] ["looks", "words"] (defScope s__law_refused) := ⟨rfl, rfl, rfl, by decide +kernel, rfl, by decide +kernel, by decide +kernel⟩
theorem G__law_refused (T : Top P K mg) : FnOk P w K mg base CX0 8 T.a__law_refused T.d__law_refused ["looks", "words"] (spRefused K) := by
  refine T.F__law_refused.ok sc__law_refused (fun vs H Q E h => ?_) (fun cdv A outer s H vs Q E hr h => ?_)
  · obtain ⟨_, _, _, _, _, rfl, _⟩ := h; rfl
  · obtain ⟨x, d, y, e, r, rfl, hd, he, hr2, q⟩ := h
    refine ⟨_, (pss_cons (ps_try_named rfl rfl takes0 (fun W pn xe tk _ => (pss_one (ps_expr (pe_callS (G_register_of T) (hr.mono (by decide)) rfl T.m_register_of T.F_register_of.kp T.b_register_of (fun σ => passAt tk σ) (by exact (pa_cons (pv 0) (pa_cons (pv 1) pa_nil))))))) (HdsA.named (i := 2) sc__law_refused.nd rfl rfl ⟨rfl, by decide, Or.inl T.x_BadLine.gC⟩ (fun a oe cls d pn hz hf => (pss_one (ps_ret (pe_lst (pa_cons pe_str (pa_cons (pe_xf T.xf_BadLine T.xn_BadLine hz hf (pv 2)) pa_nil)))))) (HdsA.named (i := 2) sc__law_refused.nd rfl rfl ⟨rfl, by decide, Or.inl T.x_BadSet.gC⟩ (fun a oe cls d pn hz hf => (pss_one (ps_ret (pe_lst (pa_cons pe_str (pa_cons (pe_xf T.xf_BadSet T.xn_BadSet hz hf (pv 2)) pa_nil)))))) (HdsA.bare ⟨rfl, by decide, Or.inl T.m_DeepError⟩ (fun a oe cls d pn hz hf => (pss_one (ps_ret (pe_lst (pa_cons pe_str (pa_cons pe_str pa_nil)))))) HdsA.nil))))
  (pss_one (ps_ret pe_non))), ?_⟩
    walk_at "rd"
    refine ⟨x, d, y, e, rfl, hd, he, fun n hn H1 dd s1 hdd => ?_, fun row hrow hw H1 dd s1 hdd => ?_, fun row es hrow hw => ?_⟩
    · refine r_named T.te_BadLine_BadLine fun a ha => ?_
      walk_at "rd"
      refine ⟨rfl, rfl, dd, _, _, rfl, hdd, rfl, ?_⟩
      walk_at "rd"
      refine ⟨by show (2 : Nat) ≤ sizeLine; decide, fun p hp => ?_⟩
      unfold refP at hr2
      rw [hn] at hr2
      cases hr2
      exact q _ _ (s1.new hp) (.lst (.inl (.inl upd_same)) (.cons (.str _) (.cons (.int _) .nil)))
    · refine r_skip T.te_BadSet_BadLine (r_named T.te_BadSet_BadSet fun a ha => ?_)
      walk_at "rd"
      refine ⟨rfl, rfl, dd, _, _, rfl, hdd, rfl, ?_⟩
      walk_at "rd"
      refine ⟨by show (2 : Nat) ≤ sizeLine; decide, fun p hp => ?_⟩
      unfold refP at hr2
      rw [hrow] at hr2
      simp only [hw] at hr2
      cases hr2
      exact q _ _ (s1.new hp) (.lst (.inl (.inl upd_same)) (.cons (.str _) (.cons (.str _) .nil)))
    · unfold refP at hr2
      rw [hrow] at hr2
      simp only [hw] at hr2
      cases hr2
def unclP (d : PyData) : Option PyData := match mixedP d with
  | .error n => some (.list [.str "line", .int n])
  | .ok _ => none
def spUnclean (K : PySem.W.Frag) : Sp := fun vs H Q _ => ∃ x d r, vs = [x] ∧ Dp K H x d ∧ unclP d = some r ∧ ∀ u H', Same H H' → Dp K H' u r → Q u H'
theorem sc__law_unclean : FnScope ["looks", "why"] ["looks"] (defScope s__law_unclean) := ⟨rfl, rfl, rfl, by decide +kernel, rfl, by decide +kernel, by decide +kernel⟩
theorem G__law_unclean (T : Top P K mg) : FnOk P w K mg base CX0 9 T.a__law_unclean T.d__law_unclean ["looks"] (spUnclean K) := by
  refine T.F__law_unclean.ok sc__law_unclean (fun vs H Q E h => ?_) (fun cdv A outer s H vs Q E hr h => ?_)
  · obtain ⟨_, _, _, rfl, _⟩ := h; rfl
  · obtain ⟨x, d, r, rfl, hd, hr2, q⟩ := h
    refine ⟨_, (pss_cons (ps_try_named rfl rfl takes0 (fun W pn xe tk _ => (pss_one (ps_expr (pe_callS (G_clean_register T) (hr.mono (by decide)) rfl T.m_clean_register T.F_clean_register.kp T.b_clean_register (fun σ => passAt tk σ) (by exact (pa_cons (pv 0) pa_nil)))))) (HdsA.named (i := 1) sc__law_unclean.nd rfl rfl ⟨rfl, by decide, Or.inl T.x_BadLine.gC⟩ (fun a oe cls d pn hz hf => (pss_one (ps_ret (pe_lst (pa_cons pe_str (pa_cons (pe_xf T.xf_BadLine T.xn_BadLine hz hf (pv 1)) pa_nil)))))) (HdsA.bare ⟨rfl, by decide, Or.inl T.m_DeepError⟩ (fun a oe cls d pn hz hf => (pss_one (ps_ret (pe_lst (pa_cons pe_str (pa_cons pe_str pa_nil)))))) HdsA.nil)))
  (pss_one (ps_ret pe_non))), ?_⟩
    walk_at "rd"
    refine ⟨x, d, rfl, hd, fun n hn H1 dd s1 hdd => ?_, fun row hrow => ?_⟩
    · refine r_named T.te_BadLine_BadLine fun a ha => ?_
      walk_at "rd"
      refine ⟨rfl, rfl, dd, _, _, rfl, hdd, rfl, ?_⟩
      walk_at "rd"
      refine ⟨by show (2 : Nat) ≤ sizeLine; decide, fun p hp => ?_⟩
      unfold unclP at hr2
      rw [hn] at hr2
      cases hr2
      exact q _ _ (s1.new hp) (.lst (.inl (.inl upd_same)) (.cons (.str _) (.cons (.int _) .nil)))
    · unfold unclP at hr2
      rw [hrow] at hr2
      cases hr2
/-- Mix(inner, m, t, True): the name of what is refused -/
def unmP (b : Bool) (dm dt : PyData) : V := if b = false then .str "inner" else if okNum dm 7 = false then .str "measurer" else if okNum dt 7 = false then .str "target" else .non
def spUnmixed (T : Top P K mg) : Sp := fun vs H Q _ => ∃ vi ti b vm dm vt dt, vs = [vi, vm, vt] ∧ TyX K H vi ti ∧ PySem.W.kitOne K ti (.ref T.C_Register) = some b ∧ Dp K H vm dm ∧ Dp K H vt dt ∧ ∀ H', Same H H' → Q (unmP b dm dt) H'
theorem sc__law_unmixed : FnScope ["inner", "measurer", "target", "why"] ["inner", "measurer", "target"] (defScope s__law_unmixed) := ⟨rfl, rfl, rfl, by decide +kernel, rfl, by decide +kernel, by decide +kernel⟩
theorem G__law_unmixed (T : Top P K mg) : FnOk P w K mg base CX0 5 T.a__law_unmixed T.d__law_unmixed ["inner", "measurer", "target"] (spUnmixed T) := by
  refine T.F__law_unmixed.ok sc__law_unmixed (fun vs H Q E h => ?_) (fun cdv A outer s H vs Q E hr h => ?_)
  · obtain ⟨_, _, _, _, _, _, _, rfl, _⟩ := h; rfl
  · obtain ⟨vi, ti, b, vm, dm, vt, dt, rfl, ty, kb, hm, ht, q⟩ := h
    refine ⟨_, (pss_cons (ps_try_named rfl rfl takes0 (fun W pn xe tk _ => (pss_one (ps_expr (pe_makeS T.k_Mix (G_Mix_init T) (hr.mono (by decide)) rfl T.m_Mix T.b_Mix_init (fun σ => passAt tk σ) (by exact (pa_cons (pv 0) (pa_cons (pv 1) (pa_cons (pv 2) (pa_cons pe_bl pa_nil))))))))) (HdsA.named (i := 3) sc__law_unmixed.nd rfl rfl ⟨rfl, by decide, Or.inl T.x_BadEvidence.gC⟩ (fun a oe cls d pn hz hf => (pss_one (ps_ret (pe_xf T.xf_BadEvidence T.xn_BadEvidence hz hf (pv 3))))) (HdsA.bare ⟨rfl, by decide, Or.inl T.m_DeepError⟩ (fun a oe cls d pn hz hf => (pss_one (ps_ret pe_str))) HdsA.nil)))
  (pss_one (ps_ret pe_non))), ?_⟩
    walk_at "rd"
    intro y dy hy hdy hyd
    have s1 := same_made (o := .own y) (u := .ins T.C_Mix dy []) hy hdy
    refine ⟨y, dy, vi, ti, b, vm, dm, vt, dt, _, .bool true, rfl, upd_same, ty.same s1, kb, hm.same s1, ht.same s1, .bl true, fun hb H1 dd f hdd => ?_, fun hb om H1 dd f hdd => ?_, fun hb om ot H1 dd f hdd => ?_, fun hb om ot => ⟨true, rfl, fun H1 f h1 => ⟨rfl, ?_⟩⟩⟩
    · refine r_named T.te_BadEvidence_BadEvidence fun a ha => ?_
      walk_at "rd"
      refine ⟨rfl, rfl, dd, _, _, rfl, hdd, rfl, ?_⟩
      have e : unmP b dm dt = .str "inner" := by unfold unmP; rw [if_pos hb]
      rw [e] at q
      exact q _ (f.made hy hdy)
    · refine r_named T.te_BadEvidence_BadEvidence fun a ha => ?_
      walk_at "rd"
      refine ⟨rfl, rfl, dd, _, _, rfl, hdd, rfl, ?_⟩
      have e : unmP b dm dt = .str "measurer" := by unfold unmP; rw [if_neg (by rw [hb]; decide), if_pos om]
      rw [e] at q
      exact q _ (f.made hy hdy)
    · refine r_named T.te_BadEvidence_BadEvidence fun a ha => ?_
      walk_at "rd"
      refine ⟨rfl, rfl, dd, _, _, rfl, hdd, rfl, ?_⟩
      have e : unmP b dm dt = .str "target" := by unfold unmP; rw [if_neg (by rw [hb]; decide), if_neg (by rw [om]; decide), if_pos ot]
      rw [e] at q
      exact q _ (f.made hy hdy)
    · walk_at "rd"
      have e : unmP b dm dt = .non := by unfold unmP; rw [if_neg (by rw [hb]; decide), if_neg (by rw [om]; decide), if_neg (by rw [ot]; decide)]
      rw [e] at q
      exact q _ (f.made hy hdy)
end
end R82
namespace R82
open PySem PySem.Spec PyProof.Rows L2
section
variable {P : Program} {w : World} {K : PySem.W.Frag} {mg : Str → Option Value} {base : Heap} {H H' : Hp}
theorem PoolAt.same {l : Addr} {n : Nat} (s : Same H H') (h : PoolAt H l n) : PoolAt H' l n := by
  obtain ⟨ns, h1, h2⟩ := h
  exact ⟨ns, s _ _ h1, h2⟩
theorem PoolAt.ne {l p : Addr} {n : Nat} (h : PoolAt H l n) (np : H p = none) : p ≠ l := by
  obtain ⟨ns, h1, h2⟩ := h
  exact (ne_of_none h1 np).symm
theorem swo {l : Addr} (s : Same H H') : Same (wo l H) (wo l H') := (Off.of_same s).wo
theorem wo_some {l p : Addr} {n : Nat} {o : HO} (h : PoolAt H l n) (np : H p = none) (e : H' p = some o) : wo l H' p = some o := wo_at (h.ne np) e
theorem rowP_bad : ∀ {row : Row} {n : Nat} {dw : PyData} {rest : List PyData}, okRow row → lookP dw = none → rowP n (row.map pairD ++ dw :: rest) = .error ((n + row.length : Nat) : Int)
  | [], n, dw, rest, _, h => by
    show (match lookP dw with | none => Except.error (n : Int) | some p => match rowP (n + 1) rest with | Except.ok r => Except.ok (p :: r) | Except.error e => Except.error e) = _
    rw [h]; rfl
  | p :: row, n, dw, rest, ok, h => by
    obtain ⟨h1, h2⟩ := ok p (by simp)
    show (match lookP (pairD p) with | none => Except.error (n : Int) | some p => match rowP (n + 1) (row.map pairD ++ dw :: rest) with | Except.ok r => Except.ok (p :: r) | Except.error e => Except.error e) = _
    have e : lookP (pairD p) = some p := by
      show (if okNum (.int p.1) 7 && okNum (.int p.2) 7 then some (p.1, p.2) else none) = some p
      rw [h1, h2]; rfl
    rw [e, rowP_bad (fun q hq => ok q (by simp [hq])) h]
    show Except.error _ = Except.error _
    rw [List.length_cons]
    congr 1
    omega
theorem spoil {α : Type} {A B : List α} {x : α} (hk : A.length ≤ 15) : ∃ r, ((A ++ [x]) ++ B).take 16 = A ++ x :: r := by
  refine ⟨B.take (15 - A.length), ?_⟩
  rw [List.append_assoc, List.take_append, List.take_of_length_le (by omega)]
  congr 1
  show List.take (16 - A.length) (x :: B) = _
  rw [show 16 - A.length = (15 - A.length) + 1 by omega, List.take_succ_cons]
theorem shaped_line (i : Int) : SeqAt.shaped (.list [.str "line", .int i]) = true := by
  simp [SeqAt.shaped, PyData.canLay0, PyData.canLayAll0, PyData.depth, PyData.depthAll]; decide +kernel
theorem shaped_set : SeqAt.shaped (.list [.str "set", .str "words"]) = true := by
  simp [SeqAt.shaped, PyData.canLay0, PyData.canLayAll0, PyData.depth, PyData.depthAll]; decide +kernel
theorem lay_bools : ∀ gs : List Bool, PyData.canLayAll0 (gs.map PyData.bool) = true
  | [] => by simp [PyData.canLayAll0]
  | g :: gs => by rw [List.map_cons]; simp only [PyData.canLayAll0, PyData.canLay0, lay_bools gs, Bool.and_self]
theorem depth_bools : ∀ gs : List Bool, PyData.depthAll (gs.map PyData.bool) ≤ 1
  | [] => by simp [PyData.depthAll]
  | g :: gs => by
    have := depth_bools gs
    rw [List.map_cons]; simp only [PyData.depthAll, PyData.depth]; omega
theorem shaped_bools (gs : List Bool) : SeqAt.shaped (.list (gs.map PyData.bool)) = true := by
  have := depth_bools gs
  simp only [SeqAt.shaped, PyData.canLay0, PyData.depth, lay_bools, Bool.true_and]
  exact decide_eq_true (by omega)
theorem lay_row : ∀ row : Row, PyData.canLayAll0 (row.map pairD) = true
  | [] => by simp [PyData.canLayAll0]
  | g :: gs => by rw [List.map_cons]; simp only [pairD, PyData.canLayAll0, PyData.canLay0, lay_row gs, Bool.and_self]
theorem depth_row : ∀ row : Row, PyData.depthAll (row.map pairD) ≤ 2
  | [] => by simp [PyData.depthAll]
  | g :: gs => by
    have := depth_row gs
    rw [List.map_cons]; simp only [pairD, PyData.depthAll, PyData.depth]; omega
theorem shaped_row (row : Row) : SeqAt.shaped (.list (row.map pairD)) = true := by
  have := depth_row row
  simp only [SeqAt.shaped, PyData.canLay0, PyData.depth, lay_row, Bool.true_and]
  exact decide_eq_true (by omega)
theorem eqv_shaped {d : PyData} (h : SeqAt.shaped d = true) : PyData.eqv d d = true := SeqAt.eqv_refl d (SeqAt.canLay_of_shaped h)
theorem dp_list2 {p : Addr} {x y : V} {a b : PyData} (h : H p = some (.lst [x, y])) (h1 : Dp K H x a) (h2 : Dp K H y b) : Dp K H (.ref p) (.list [a, b]) := .lst (.inl (.inl h)) (.cons h1 (.cons h2 .nil))
theorem Lw.same {lk wd : Addr} {row : Row} {gs : List Bool} (s : Same H H') (h : Lw K H lk wd row gs) : Lw K H' lk wd row gs := by
  obtain ⟨⟨xs, h1, h2⟩, h3, h4, h5⟩ := h
  exact ⟨⟨xs, s.seq h1, h2.keep fun a o e _ => s a o e⟩, s.seq h3, h4, h5⟩
def spErr (K : PySem.W.Frag) : Sp := fun vs H Q _ => ∃ (l lk wd : Addr) (n : Nat) (row : Row) (gs : List Bool), vs = [.ref l, .ref lk, .ref wd] ∧ PoolAt H l n ∧ Lw K (wo l H) lk wd row gs ∧ okRow row ∧ row.length ≤ 16 ∧ ∀ H', Q (.bl true) H'
theorem sc__law_errors : FnScope ["pool", "looks", "words", "at", "wrong", "spoilt", "due", "short", "thing", "bad"] ["pool", "looks", "words"] (defScope s__law_errors) := ⟨rfl, rfl, rfl, by decide +kernel, rfl, by decide +kernel, by decide +kernel⟩
theorem G__law_errors (T : Top P K mg) : FnOk P w K mg base CX0 12 T.a__law_errors T.d__law_errors ["pool", "looks", "words"] (spErr K) := by
  refine T.F__law_errors.ok sc__law_errors (fun vs H Q E h => ?_) (fun cdv A outer s H vs Q E hr h => ?_)
  · obtain ⟨_, _, _, _, _, _, rfl, _⟩ := h; rfl
  · obtain ⟨l, lk, wd, n, row, gs, rfl, hp, hL, hok, h16, q⟩ := h
    refine ⟨_, (pss_cons (ps_set (i := 3) sc__law_errors.nd rfl (Or.inl rfl) (pe_call (G__law_next T) (hr.mono (by decide)) rfl T.m__law_next T.F__law_next.kp T.b__law_next .nil pass0 (pa_cons (pv 0) (pa_cons (pe_op op_add (pe_callB call_len_seq (by rfl) T.z_len (show bootBuiltins "len" = some (.builtin "len") by decide +kernel) (pa_cons (pv 1) pa_nil)) pe_int) pa_nil))))
  (pss_cons (ps_set (i := 4) sc__law_errors.nd rfl (Or.inl rfl) (pe_ix ix_list (pe_lst (pa_cons (pe_tup (pa_cons pe_int (pa_cons pe_int pa_nil))) (pa_cons (pe_tup (pa_cons pe_int (pa_cons (pe_un un_neg pe_int) pa_nil))) (pa_cons (pe_tup (pa_cons pe_bl (pa_cons pe_int pa_nil))) (pa_cons (pe_tup (pa_cons pe_int pa_nil)) (pa_cons (pe_tup (pa_cons pe_int (pa_cons pe_int (pa_cons pe_int pa_nil)))) (pa_cons pe_non (pa_cons pe_str pa_nil)))))))) (pe_call (G__law_next T) (hr.mono (by decide)) rfl T.m__law_next T.F__law_next.kp T.b__law_next .nil pass0 (pa_cons (pv 0) (pa_cons pe_int pa_nil))) (fun _ _ => rfl)))
  (pss_cons (ps_set (i := 5) sc__law_errors.nd rfl (Or.inl rfl) (pe_op op_cat (pe_op op_cat (pe_slice sl_list (pv 1) po_none (po_some (pv 3))) (pe_lst (pa_cons (pv 4) pa_nil))) (pe_slice sl_list (pv 1) (po_some (pv 3)) po_none)))
  (pss_cons (ps_set (i := 5) sc__law_errors.nd rfl (Or.inl rfl) (pe_slice sl_list (pv 5) po_none (po_some pe_int)))
  (pss_cons (ps_set (i := 6) sc__law_errors.nd rfl (Or.inl rfl) (pe_lst (pa_cons pe_str (pa_cons (pe_callB (call_min2 rfl) (by rfl) T.z_min (show bootBuiltins "min" = some (.builtin "min") by decide +kernel) (pa_cons (pv 3) (pa_cons pe_int pa_nil))) pa_nil))))
  (pss_cons (ps_if (pt_cmpR op_eq (pv 3) pe_int (nomark _)) (pss_one (ps_set (i := 5) sc__law_errors.nd rfl (Or.inl rfl) (pe_op op_cat (pe_slice sl_list (pv 1) po_none (po_some pe_int)) (pe_lst (pa_cons (pv 4) pa_nil))))) pss_nil)
  (pss_cons (ps_if (PW.pt (pw_or (pt_cmpR (op_neD hr.units) (pe_call (G__law_refused T) (hr.mono (by decide)) rfl T.m__law_refused T.F__law_refused.kp T.b__law_refused .nil pass0 (pa_cons (pe_callTy (call_listK (K := K) rfl) (by rfl) T.z_list (show bootBuiltins "list" = some (.type "list") by decide +kernel) (pa_cons (pv 5) pa_nil)) (pa_cons (pe_lst pa_nil) pa_nil))) (pv 6) (nomark _)) (pw_or1 (pt_cmpR (op_neD hr.units) (pe_call (G__law_unclean T) (hr.mono (by decide)) rfl T.m__law_unclean T.F__law_unclean.kp T.b__law_unclean .nil pass0 (pa_cons (pe_callTy call_tuple_of (by rfl) T.z_tuple (show bootBuiltins "tuple" = some (.type "tuple") by decide +kernel) (pa_cons (pv 5) pa_nil)) pa_nil)) (pv 6) (nomark _))))) (pss_one (ps_ret pe_bl)) pss_nil)
  (pss_cons (ps_set (i := 7) sc__law_errors.nd rfl (Or.inl rfl) (pe_ix ix_list (pe_lst (pa_cons (pe_lst pa_nil) (pa_cons (pe_op op_cat (pe_callTy (call_listK (K := K) rfl) (by rfl) T.z_list (show bootBuiltins "list" = some (.type "list") by decide +kernel) (pa_cons (pv 2) pa_nil)) (pe_lst (pa_cons pe_bl pa_nil))) (pa_cons pe_non (pa_cons pe_str (pa_cons pe_int pa_nil)))))) (pe_call (G__law_next T) (hr.mono (by decide)) rfl T.m__law_next T.F__law_next.kp T.b__law_next .nil pass0 (pa_cons (pv 0) (pa_cons pe_int pa_nil))) (fun _ _ => rfl)))
  (pss_cons (ps_if (PW.pt (pw_and (pt_cmpR op_eq (pe_callB call_len_seq (by rfl) T.z_len (show bootBuiltins "len" = some (.builtin "len") by decide +kernel) (pa_cons (pv 1) pa_nil)) pe_int (nomark _)) (pw_and1 (pt_cmpR (op_eqD hr.units) (pv 7) (pe_lst pa_nil) (nomark _))))) (pss_one (ps_set (i := 7) sc__law_errors.nd rfl (Or.inl rfl) (pe_lst (pa_cons pe_bl pa_nil)))) pss_nil)
  (pss_cons (ps_if (pt_cmpR (op_neD hr.units) (pe_call (G__law_refused T) (hr.mono (by decide)) rfl T.m__law_refused T.F__law_refused.kp T.b__law_refused .nil pass0 (pa_cons (pe_callTy (call_listK (K := K) rfl) (by rfl) T.z_list (show bootBuiltins "list" = some (.type "list") by decide +kernel) (pa_cons (pv 1) pa_nil)) (pa_cons (pv 7) pa_nil))) (pe_lst (pa_cons pe_str (pa_cons pe_str pa_nil))) (nomark _)) (pss_one (ps_ret pe_bl)) pss_nil)
  (pss_cons (ps_for PassesOwn.never rfl (pi_list (pe_lst (pa_cons pe_non (pa_cons pe_int (pa_cons pe_str (pa_cons (pe_op op_rep (pe_lst (pa_cons (pe_tup (pa_cons pe_int (pa_cons pe_int pa_nil))) pa_nil)) pe_int) pa_nil)))))) (pg_name (i := 8) sc__law_errors.nd rfl (Or.inl rfl))
  (pss_one (ps_if (PW.pt (pw_or (pt_cmpR (op_neD hr.units) (pe_call (G__law_refused T) (hr.mono (by decide)) rfl T.m__law_refused T.F__law_refused.kp T.b__law_refused .nil pass0 (pa_cons (pv 8) (pa_cons (pe_lst pa_nil) pa_nil))) (pe_lst (pa_cons pe_str (pa_cons (pe_un un_neg pe_int) pa_nil))) (nomark _)) (pw_or1 (pt_cmpR (op_neD hr.units) (pe_call (G__law_unclean T) (hr.mono (by decide)) rfl T.m__law_unclean T.F__law_unclean.kp T.b__law_unclean .nil pass0 (pa_cons (pv 8) pa_nil)) (pe_lst (pa_cons pe_str (pa_cons (pe_un un_neg pe_int) pa_nil))) (nomark _))))) (pss_one (ps_ret pe_bl)) pss_nil)))
  (pss_cons (ps_set (i := 9) sc__law_errors.nd rfl (Or.inl rfl) (pe_ix ix_list (pe_lst (pa_cons pe_int (pa_cons (pe_un un_neg pe_int) (pa_cons pe_non (pa_cons pe_bl pa_nil))))) (pe_call (G__law_next T) (hr.mono (by decide)) rfl T.m__law_next T.F__law_next.kp T.b__law_next .nil pass0 (pa_cons (pv 0) (pa_cons pe_int pa_nil))) (fun _ _ => rfl)))
  (pss_cons (ps_if (PW.pt (pw_or (pt_cmpR op_ne (pe_call (G__law_unmixed T) (hr.mono (by decide)) rfl T.m__law_unmixed T.F__law_unmixed.kp T.b__law_unmixed .nil pass0 (pa_cons pe_non (pa_cons (pv 9) (pa_cons (pv 9) pa_nil)))) pe_str (nomark _)) (pw_or1 (pt_cmpR op_ne (pe_call (G__law_unmixed T) (hr.mono (by decide)) rfl T.m__law_unmixed T.F__law_unmixed.kp T.b__law_unmixed .nil pass0 (pa_cons (pe_makeN T.k_Zero (by rfl) T.m_Zero) (pa_cons (pv 9) (pa_cons (pv 9) pa_nil)))) pe_str (nomark _))))) (pss_one (ps_ret pe_bl)) pss_nil)
  (pss_one (ps_ret (pe_and (pe_cmpR op_eq (pe_call (G__law_unmixed T) (hr.mono (by decide)) rfl T.m__law_unmixed T.F__law_unmixed.kp T.b__law_unmixed .nil pass0 (pa_cons (pe_makeN T.k_Zero (by rfl) T.m_Zero) (pa_cons pe_int (pa_cons (pv 9) pa_nil)))) pe_str (nomark _)) (pe_one (pe_cmpR op_isN (pe_call (G__law_unmixed T) (hr.mono (by decide)) rfl T.m__law_unmixed T.F__law_unmixed.kp T.b__law_unmixed .nil pass0 (pa_cons (pe_make T.k_Mix (G_Mix_init T) (hr.mono (by decide)) rfl T.m_Mix T.b_Mix_init .nil passN (pa_cons (pe_makeN T.k_Zero (by rfl) T.m_Zero) (pa_cons pe_int (pa_cons pe_int (pa_cons pe_int pa_nil))))) (pa_cons pe_int (pa_cons pe_int pa_nil)))) pe_non (nomark _))))))))))))))))))), ?_⟩
    walk_at "rd"
    obtain ⟨⟨xs, hx, hrow⟩, hws, hlen, hsm⟩ := hL
    have hlx := hrow.length
    refine r_lenL (wo_le.seq hx) ?_
    walk_at "rd"
    refine ⟨l, n, _, rfl, by omega, hp, fun at_ H1 at0 at1 o1 hp1 => ?_⟩
    obtain ⟨k, rfl⟩ : ∃ k : Nat, at_ = k := ⟨at_.toNat, by omega⟩
    walk_at "rd"
    have S1 := o1.wo
    refine ⟨by show (2 : Nat) ≤ sizeLine; decide, fun p1 n_p1 => ?_⟩
    generalize hG : upd _ p1 _ = H2
    obtain ⟨S_H2, e_p1⟩ := eq_new hG n_p1
    clear hG
    walk_at "rd"
    refine ⟨by show (2 : Nat) ≤ sizeLine; decide, fun p2 n_p2 => ?_⟩
    generalize hG : upd _ p2 _ = H3
    obtain ⟨S_H3, e_p2⟩ := eq_new hG n_p2
    clear hG
    walk_at "rd"
    refine ⟨by show (2 : Nat) ≤ sizeLine; decide, fun p3 n_p3 => ?_⟩
    generalize hG : upd _ p3 _ = H4
    obtain ⟨S_H4, e_p3⟩ := eq_new hG n_p3
    clear hG
    walk_at "rd"
    refine ⟨by show (1 : Nat) ≤ sizeLine; decide, fun p4 n_p4 => ?_⟩
    generalize hG : upd _ p4 _ = H5
    obtain ⟨S_H5, e_p4⟩ := eq_new hG n_p4
    clear hG
    walk_at "rd"
    refine ⟨by show (3 : Nat) ≤ sizeLine; decide, fun p5 n_p5 => ?_⟩
    generalize hG : upd _ p5 _ = H6
    obtain ⟨S_H6, e_p5⟩ := eq_new hG n_p5
    clear hG
    walk_at "rd"
    refine ⟨by show (7 : Nat) ≤ sizeLine; decide, fun p6 n_p6 => ?_⟩
    generalize hG : upd _ p6 _ = H7
    obtain ⟨S_H7, e_p6⟩ := eq_new hG n_p6
    clear hG
    walk_at "rd"
    have hp7 := ((((((hp1.same S_H2).same S_H3).same S_H4).same S_H5).same S_H6).same S_H7)
    refine ⟨l, n, 7, rfl, by omega, hp7, fun i2 H8 a2 b2 o8 hp8 => ?_⟩
    have S17 : Same H1 H7 := ((((S_H2.trans S_H3).trans S_H4).trans S_H5).trans S_H6).trans S_H7
    have W8 : Same (wo l H7) (wo l H8) := o8.wo
    have S08 : Same (wo l H) (wo l H8) := (S1.trans (swo S17)).trans W8
    obtain ⟨wv, dw, hwv, Dw, hlw⟩ : ∃ wv dw, atI [V.ref p1, V.ref p2, V.ref p3, V.ref p4, V.ref p5, V.non, V.str (Str.ofString "01")] i2 = some wv ∧ Dp K (wo l H8) wv dw ∧ lookP dw = none := by
      have f1 : wo l H8 p1 = some (.tup [.int 8, .int 0]) := W8 _ _ (wo_some hp1 n_p1 ((((((S_H3.trans S_H4).trans S_H5).trans S_H6).trans S_H7)) _ _ e_p1))
      have f2 : wo l H8 p2 = some (.tup [.int 0, .int (-1)]) := W8 _ _ (wo_some (hp1.same S_H2) n_p2 (((((S_H4).trans S_H5).trans S_H6).trans S_H7) _ _ e_p2))
      have f3 : wo l H8 p3 = some (.tup [.bl true, .int 0]) := W8 _ _ (wo_some ((hp1.same S_H2).same S_H3) n_p3 (((S_H5.trans S_H6).trans S_H7) _ _ e_p3))
      have f4 : wo l H8 p4 = some (.tup [.int 0]) := W8 _ _ (wo_some (((hp1.same S_H2).same S_H3).same S_H4) n_p4 ((S_H6.trans S_H7) _ _ e_p4))
      have f5 : wo l H8 p5 = some (.tup [.int 0, .int 1, .int 2]) := W8 _ _ (wo_some ((((hp1.same S_H2).same S_H3).same S_H4).same S_H5) n_p5 (S_H7 _ _ e_p5))
      have hi : i2 = 0 ∨ i2 = 1 ∨ i2 = 2 ∨ i2 = 3 ∨ i2 = 4 ∨ i2 = 5 ∨ i2 = 6 := by omega
      rcases hi with rfl | rfl | rfl | rfl | rfl | rfl | rfl
      · exact ⟨_, .tuple [.int 8, .int 0], rfl, .tup (.inl (.inl f1)) (.cons (.int _) (.cons (.int _) .nil)), by decide⟩
      · exact ⟨_, .tuple [.int 0, .int (-1)], rfl, .tup (.inl (.inl f2)) (.cons (.int _) (.cons (.int _) .nil)), by decide⟩
      · exact ⟨_, .tuple [.bool true, .int 0], rfl, .tup (.inl (.inl f3)) (.cons (.bl _) (.cons (.int _) .nil)), by decide⟩
      · exact ⟨_, .tuple [.int 0], rfl, .tup (.inl (.inl f4)) (.cons (.int _) .nil), by decide⟩
      · exact ⟨_, .tuple [.int 0, .int 1, .int 2], rfl, .tup (.inl (.inl f5)) (.cons (.int _) (.cons (.int _) (.cons (.int _) .nil))), by decide⟩
      · exact ⟨_, .none, rfl, .non, by decide⟩
      · exact ⟨_, .str _, rfl, .str _, by decide⟩
    have e6 : H8 p6 = some (.lst [V.ref p1, V.ref p2, V.ref p3, V.ref p4, V.ref p5, V.non, V.str (Str.ofString "01")]) := o8 _ _ (PoolAt.ne (((((hp1.same S_H2).same S_H3).same S_H4).same S_H5).same S_H6) n_p6) e_p6
    refine r_ixL (.inl (.inl e6)) hwv ?_
    walk_at "rd"
    have hx8 : SqL K H8 lk xs := wo_le.seq (S08.seq hx)
    have hsz : (10000 : Nat) < sizeLine := by decide
    refine r_slL hx8 ?_
    rw [cutV_to]
    intro p7 n_p7
    generalize hG : upd _ p7 _ = H9
    obtain ⟨S_H9, e_p7⟩ := eq_new hG n_p7
    clear hG
    walk_at "rd"
    refine ⟨by show (1 : Nat) ≤ sizeLine; decide, fun p8 n_p8 => ?_⟩
    generalize hG : upd _ p8 _ = H10
    obtain ⟨S_H10, e_p8⟩ := eq_new hG n_p8
    clear hG
    walk_at "rd"
    refine r_cat (xs := xs.take k) (zs := [wv]) (S_H10 _ _ e_p7) e_p8 (by rw [List.length_take]; show _ + 1 ≤ _; omega) ?_
    intro p9 n_p9
    generalize hG : upd _ p9 _ = H11
    obtain ⟨S_H11, e_p9⟩ := eq_new hG n_p9
    clear hG
    walk_at "rd"
    refine r_slL (((S_H9.trans S_H10).trans S_H11).seq hx8) ?_
    rw [cutV_from]
    intro p10 n_p10
    generalize hG : upd _ p10 _ = H12
    obtain ⟨S_H12, e_p10⟩ := eq_new hG n_p10
    clear hG
    walk_at "rd"
    refine r_cat (xs := xs.take k ++ [wv]) (zs := xs.drop k) (S_H12 _ _ e_p9) e_p10 (by simp only [List.length_append, List.length_take, List.length_drop, List.length_singleton]; omega) ?_
    intro p11 n_p11
    generalize hG : upd _ p11 _ = H13
    obtain ⟨S_H13, e_p11⟩ := eq_new hG n_p11
    clear hG
    walk_at "rd"
    refine r_slL (.inl (.inl e_p11)) ?_
    rw [show (16 : Int) = ((16 : Nat) : Int) from rfl, cutV_to]
    intro p12 n_p12
    generalize hG : upd _ p12 _ = H14
    obtain ⟨S_H14, e_p12⟩ := eq_new hG n_p12
    clear hG
    walk_at "rd"
    generalize hm15 : (if (15 : Int) < ↑k then (15 : Int) else ↑k) = m15
    refine ⟨by show (2 : Nat) ≤ sizeLine; decide, fun p13 n_p13 => ?_⟩
    generalize hG : upd _ p13 _ = H15
    obtain ⟨S_H15, e_p13⟩ := eq_new hG n_p13
    clear hG
    have S815 : Same H8 H15 := ((((((S_H9.trans S_H10).trans S_H11).trans S_H12).trans S_H13).trans S_H14).trans S_H15)
    have hxs : DpAll K (wo l H8) xs (row.map pairD) := (hrow.keep fun a o e _ => S08 a o e).dp
    walk_at "rs"
    refine r_cut (fun σ' H' => Same H15 H' ∧ ∃ p zs ds, σ' = [some (.ref l), some (.ref lk), some (.ref wd), some (.int k), some wv, some (.ref p), some (.ref p13), none, none, none] ∧ H' p = some (.lst zs) ∧ DpAll K H' zs ds ∧ ds.length ≤ 16 ∧ rowP 0 ds = .error m15) (fun N' hN => ?_) ?_
    · walk_at "rd"
      refine r_ite (fun c => ?_) (fun c => ?_)
      · have hk16 : k = 16 := by simp only [decide_eq_true_eq, V.int.injEq] at c; omega
        walk_at "rd"
        refine r_slL (S815.seq hx8) ?_
        rw [show (15 : Int) = ((15 : Nat) : Int) from rfl, cutV_to]
        intro p14 n_p14
        generalize hG : upd _ p14 _ = H16
        obtain ⟨S_H16, e_p14⟩ := eq_new hG n_p14
        clear hG
        walk_at "rd"
        refine ⟨by show (1 : Nat) ≤ sizeLine; decide, fun p15 n_p15 => ?_⟩
        generalize hG : upd _ p15 _ = H17
        obtain ⟨S_H17, e_p15⟩ := eq_new hG n_p15
        clear hG
        walk_at "rd"
        refine r_cat (xs := xs.take 15) (zs := [wv]) (S_H17 _ _ e_p14) e_p15 (by rw [List.length_take]; show _ + 1 ≤ _; omega) ?_
        intro p16 n_p16
        generalize hG : upd _ p16 _ = H18
        obtain ⟨S_H18, e_p16⟩ := eq_new hG n_p16
        clear hG
        walk_at "rd"
        have S818 : Same (wo l H8) H18 := wo_le.trans (S815.trans ((S_H16.trans S_H17).trans S_H18))
        refine hN _ _ ⟨(S_H16.trans S_H17).trans S_H18, p16, _, (row.take 15).map pairD ++ [dw], rfl, e_p16, ?_, ?_, ?_⟩
        · rw [List.map_take]
          exact ((hxs.take 15).append (.cons Dw .nil)).same S818
        · simp only [List.length_append, List.length_map, List.length_take, List.length_singleton]; omega
        · rw [rowP_bad (fun q hq => hok q (List.mem_of_mem_take hq)) hlw, List.length_take, ← hm15, hk16, if_pos (by decide)]
          congr 1
          omega
      · have hk16 : k ≤ 15 := by simp only [decide_eq_false_iff_not, V.int.injEq] at c; omega
        walk_at "rd"
        obtain ⟨r, hr3⟩ := spoil (A := (row.take k).map pairD) (B := (row.drop k).map pairD) (x := dw) (by rw [List.length_map, List.length_take]; omega)
        refine hN _ _ ⟨Same.refl _, p12, _, (row.take k).map pairD ++ dw :: r, rfl, S_H15 _ _ e_p12, ?_, ?_, ?_⟩
        · rw [← hr3, List.map_take, List.map_drop]
          exact ((((hxs.take k).append (.cons Dw .nil)).append (hxs.drop k)).take 16).same (wo_le.trans S815)
        · rw [← hr3, List.length_take]; omega
        · rw [rowP_bad (fun q hq => hok q (List.mem_of_mem_take hq)) hlw, List.length_take, ← hm15, if_neg (by omega)]
          congr 1
          omega
    rintro σ' H16 ⟨S_H16, pz, zs, ds, rfl, e_pz, Dz, hlz, hbad⟩
    walk_at "rd"
    have hml : mixedP (.list ds) = .error m15 := by
      unfold mixedP
      show (if 16 < ds.length then .error (-1) else rowP 0 ds) = _
      rw [if_neg (by omega)]; exact hbad
    have hmt : mixedP (.tuple ds) = .error m15 := by
      unfold mixedP
      show (if 16 < ds.length then .error (-1) else rowP 0 ds) = _
      rw [if_neg (by omega)]; exact hbad
    refine r_listL (.inl (.inl e_pz)) ?_
    intro p20 n_p20
    generalize hG : upd _ p20 _ = H20
    obtain ⟨S_H20, e_p20⟩ := eq_new hG n_p20
    clear hG
    walk_at "rd"
    refine ⟨by show (0 : Nat) ≤ sizeLine; decide, fun p21 n_p21 => ?_⟩
    generalize hG : upd _ p21 _ = H21
    obtain ⟨S_H21, e_p21⟩ := eq_new hG n_p21
    clear hG
    walk_at "rd"
    refine ⟨_, .list ds, _, .list [], .list [.str "line", .int m15], rfl, .lst (.inl (.inl (S_H21 _ _ e_p20))) (Dz.same (S_H20.trans S_H21)), .lst (.inl (.inl e_p21)) .nil, by unfold refP; rw [hml], fun u H22 S_H22 hu => ?_⟩
    walk_at "rd"
    have S1522 : Same H15 H22 := S_H16.trans ((S_H20.trans S_H21).trans S_H22)
    refine r_neD hu (dp_list2 (S1522 _ _ e_p13) (.str _) (.int _)) (shaped_line _) (shaped_line _) ?_
    rw [eqv_shaped (shaped_line _)]
    walk_at "rd"
    refine r_tupL (.inl (.inl (((S_H20.trans S_H21).trans S_H22) _ _ e_pz))) ?_
    intro p23 n_p23
    generalize hG : upd _ p23 _ = H23
    obtain ⟨S_H23, e_p23⟩ := eq_new hG n_p23
    clear hG
    walk_at "rd"
    refine ⟨_, .tuple ds, .list [.str "line", .int m15], rfl, .tup (.inl (.inl e_p23)) (Dz.same (((S_H20.trans S_H21).trans S_H22).trans S_H23)), by unfold unclP; rw [hmt], fun u H24 S_H24 hu => ?_⟩
    walk_at "rd"
    have S1524 : Same H15 H24 := S1522.trans (S_H23.trans S_H24)
    refine r_neD hu (dp_list2 (S1524 _ _ e_p13) (.str _) (.int _)) (shaped_line _) (shaped_line _) ?_
    rw [eqv_shaped (shaped_line _)]
    walk_at "rd"
    have S824 : Same H8 H24 := S815.trans S1524
    have hp24 := hp8.same S824
    have hws24 : SqL K H24 wd (gs.map V.bl) := (wo_le.trans S824).seq (S08.seq hws)
    refine ⟨by show (0 : Nat) ≤ sizeLine; decide, fun p30 n_p30 => ?_⟩
    generalize hG : upd _ p30 _ = H30
    obtain ⟨S_H30, e_p30⟩ := eq_new hG n_p30
    clear hG
    walk_at "rd"
    refine r_listL (S_H30.seq hws24) ?_
    intro p31 n_p31
    generalize hG : upd _ p31 _ = H31
    obtain ⟨S_H31, e_p31⟩ := eq_new hG n_p31
    clear hG
    walk_at "rd"
    refine ⟨by show (1 : Nat) ≤ sizeLine; decide, fun p32 n_p32 => ?_⟩
    generalize hG : upd _ p32 _ = H32
    obtain ⟨S_H32, e_p32⟩ := eq_new hG n_p32
    clear hG
    walk_at "rd"
    refine r_cat (xs := gs.map V.bl) (zs := [.bl true]) (S_H32 _ _ e_p31) e_p32 (by rw [List.length_map]; show _ + 1 ≤ _; omega) ?_
    intro p33 n_p33
    generalize hG : upd _ p33 _ = H33
    obtain ⟨S_H33, e_p33⟩ := eq_new hG n_p33
    clear hG
    walk_at "rd"
    refine ⟨by show (5 : Nat) ≤ sizeLine; decide, fun p34 n_p34 => ?_⟩
    generalize hG : upd _ p34 _ = H34
    obtain ⟨S_H34, e_p34⟩ := eq_new hG n_p34
    clear hG
    walk_at "rd"
    have S3034 : Same H30 H34 := ((S_H31.trans S_H32).trans S_H33).trans S_H34
    have hp34 := hp24.same (S_H30.trans S3034)
    refine ⟨l, n, 5, rfl, by omega, hp34, fun i3 H35 a3 b3 o35 hp35 => ?_⟩
    have hp33 : PoolAt H33 l n := (hp24.same (S_H30.trans ((S_H31.trans S_H32).trans S_H33)))
    have hp32 : PoolAt H32 l n := (hp24.same (S_H30.trans ((S_H31.trans S_H32))))
    have hwd0 : wordsP (.list []) row.length = none ∨ row.length = 0 := by
      by_cases h0 : row.length = 0
      · exact .inr h0
      · left; unfold wordsP
        show (if ([] : List PyData).length = row.length then some [] else none) = none
        exact if_neg (by rw [List.length_nil]; omega)
    obtain ⟨sv, sd, hsv, Ds, hss, hsd⟩ : ∃ sv sd, atI [V.ref p30, V.ref p33, V.non, V.str (Str.ofString "good"), V.int 3] i3 = some sv ∧ Dp K H35 sv sd ∧ SeqAt.shaped sd = true ∧ (sd = .list [] ∨ (PyData.eqv sd (.list []) = false ∧ wordsP sd row.length = none)) := by
      have f1 : H35 p30 = some (.lst []) := o35 _ _ (hp24.ne n_p30) (S3034 _ _ e_p30)
      have f2 : H35 p33 = some (.lst (gs.map V.bl ++ [.bl true])) := o35 _ _ (hp32.ne n_p33) (S_H34 _ _ e_p33)
      have hi : i3 = 0 ∨ i3 = 1 ∨ i3 = 2 ∨ i3 = 3 ∨ i3 = 4 := by omega
      rcases hi with rfl | rfl | rfl | rfl | rfl
      · exact ⟨_, .list [], rfl, .lst (.inl (.inl f1)) .nil, shaped_bools [], .inl rfl⟩
      · refine ⟨_, .list ((gs ++ [true]).map PyData.bool), rfl, .lst (.inl (.inl f2)) ?_, shaped_bools _, .inr ⟨?_, ?_⟩⟩
        · have := dp_bools (K := K) (H := H35) (gs ++ [true])
          rw [List.map_append] at this
          exact this
        · cases gs with
          | nil => rfl
          | cons _ _ => rfl
        · unfold wordsP
          show (if ((gs ++ [true]).map PyData.bool).length = row.length then some _ else none) = none
          refine if_neg ?_
          rw [List.length_map, List.length_append, List.length_singleton]; omega
      · exact ⟨_, .none, rfl, .non, rfl, .inr ⟨rfl, rfl⟩⟩
      · exact ⟨_, .str _, rfl, .str _, by decide +kernel, .inr ⟨rfl, rfl⟩⟩
      · exact ⟨_, .int _, rfl, .int _, rfl, .inr ⟨rfl, rfl⟩⟩
    have e34 : H35 p34 = some (.lst [V.ref p30, V.ref p33, V.non, V.str (Str.ofString "good"), V.int 3]) := o35 _ _ (hp33.ne n_p34) e_p34
    have hx35 : SqL K H35 lk xs := wo_le.seq (o35.wo.seq ((swo (S824.trans (S_H30.trans S3034))).seq (S08.seq hx)))
    have hxs35 : DpAll K H35 xs (row.map pairD) := (((hxs.same (swo (S824.trans (S_H30.trans S3034)))).same o35.wo)).same wo_le
    refine r_ixL (.inl (.inl e34)) hsv ?_
    walk_at "rs"
    refine r_cut (fun σ' H' => Same H35 H' ∧ ∃ sv sd, σ' = [some (.ref l), some (.ref lk), some (.ref wd), some (.int k), some wv, some (.ref pz), some (.ref p13), some sv, none, none] ∧ Dp K H' sv sd ∧ wordsP sd row.length = none) (fun N' hN => ?_) ?_
    · walk_at "rd"
      refine r_lenL hx35 ?_
      walk_at "rd"
      refine r_ite (fun c => ?_) (fun c => ?_)
      · have h0 : row.length = 0 := by simp only [decide_eq_true_eq, V.int.injEq] at c; omega
        walk_at "rd"
        refine ⟨by show (0 : Nat) ≤ sizeLine; decide, fun p40 n_p40 => ?_⟩
        generalize hG : upd _ p40 _ = H40
        obtain ⟨S_H40, e_p40⟩ := eq_new hG n_p40
        clear hG
        walk_at "rd"
        refine r_eqD (Ds.same S_H40) (.lst (.inl (.inl e_p40)) .nil) hss (shaped_bools []) ?_
        walk_at "rd"
        rcases hsd with rfl | ⟨he, hw⟩
        · refine r_iT rfl ?_
          walk_at "rd"
          refine ⟨by show (1 : Nat) ≤ sizeLine; decide, fun p41 n_p41 => ?_⟩
          generalize hG : upd _ p41 _ = H41
          obtain ⟨S_H41, e_p41⟩ := eq_new hG n_p41
          clear hG
          walk_at "rd"
          refine hN _ _ ⟨S_H40.trans S_H41, _, .list [.bool true], rfl, .lst (.inl (.inl e_p41)) (.cons (.bl _) .nil), ?_⟩
          unfold wordsP
          show (if [PyData.bool true].length = row.length then some _ else none) = none
          rw [h0]; rfl
        · refine r_iF he ?_
          walk_at "rd"
          exact hN _ _ ⟨S_H40, _, sd, rfl, Ds.same S_H40, hw⟩
      · have h0 : row.length ≠ 0 := by simp only [decide_eq_false_iff_not, V.int.injEq] at c; omega
        walk_at "rd"
        refine hN _ _ ⟨Same.refl _, _, sd, rfl, Ds, ?_⟩
        rcases hsd with rfl | ⟨he, hw⟩
        · exact hwd0.resolve_right h0
        · exact hw
    rintro σ' H42 ⟨S_H42, sv, sd, rfl, Ds, hsw⟩
    walk_at "rd"
    refine r_listL (S_H42.seq hx35) ?_
    intro p43 n_p43
    generalize hG : upd _ p43 _ = H43
    obtain ⟨S_H43, e_p43⟩ := eq_new hG n_p43
    clear hG
    walk_at "rd"
    have hrow2 : mixedP (.list (row.map pairD)) = .ok row := mixedP_of rfl h16 hok
    refine ⟨_, .list (row.map pairD), _, sd, .list [.str "set", .str "words"], rfl, .lst (.inl (.inl e_p43)) (hxs35.same (S_H42.trans S_H43)), Ds.same S_H43, by unfold refP; rw [hrow2]; simp only [hsw], fun u H44 S_H44 hu => ?_⟩
    walk_at "rd"
    refine ⟨by show (2 : Nat) ≤ sizeLine; decide, fun p45 n_p45 => ?_⟩
    generalize hG : upd _ p45 _ = H45
    obtain ⟨S_H45, e_p45⟩ := eq_new hG n_p45
    clear hG
    walk_at "rd"
    refine r_neD (hu.same S_H45) (dp_list2 e_p45 (.str _) (.str _)) shaped_set shaped_set ?_
    rw [eqv_shaped shaped_set]
    walk_at "rd"
    have hp45 : PoolAt H45 l n := hp35.same (((S_H42.trans S_H43).trans S_H44).trans S_H45)
    refine ⟨by show (2 : Nat) ≤ sizeLine; decide, fun p50 n_p50 => ?_⟩
    generalize hG : upd _ p50 _ = H50
    obtain ⟨S_H50, e_p50⟩ := eq_new hG n_p50
    clear hG
    walk_at "rd"
    refine ⟨by show (1 : Nat) ≤ sizeLine; decide, fun p51 n_p51 => ?_⟩
    generalize hG : upd _ p51 _ = H51
    obtain ⟨S_H51, e_p51⟩ := eq_new hG n_p51
    clear hG
    walk_at "rd"
    refine ⟨p51, 17, [.ref p50], rfl, rfl, e_p51, by omega, by omega, by show 17 ≤ _; omega, ?_⟩
    rw [show (List.replicate (Int.toNat 17) [V.ref p50]).flatten = List.replicate 17 (V.ref p50) from rfl]
    intro p52 n_p52
    generalize hG : upd _ p52 _ = H52
    obtain ⟨S_H52, e_p52⟩ := eq_new hG n_p52
    clear hG
    walk_at "rd"
    refine ⟨by show (4 : Nat) ≤ sizeLine; decide, fun p53 n_p53 => ?_⟩
    generalize hG : upd _ p53 _ = H53
    obtain ⟨S_H53, e_p53⟩ := eq_new hG n_p53
    clear hG
    walk_at "rd"
    have S5053 : Same H50 H53 := (S_H51.trans S_H52).trans S_H53
    have Dpair : Dp K H53 (.ref p50) (pairD (0, 0)) := .tup (.inl (.inl (S5053 _ _ e_p50))) (.cons (.int _) (.cons (.int _) .nil))
    have Dall : ∀ m, DpAll K H53 (List.replicate m (V.ref p50)) (List.replicate m (pairD (0, 0))) := fun m => by
      induction m with
      | zero => exact .nil
      | succ m ih => exact .cons Dpair ih
    have Dth : ∀ (i : Nat) (x : V), [V.non, V.int 7, V.str (Str.ofString ""), V.ref p52][i]? = some x → ∃ d, Dp K H53 x d ∧ mixedP d = .error (-1) := fun i x hx => by
      match i, hx with
      | 0, hx => cases hx; exact ⟨.none, .non, rfl⟩
      | 1, hx => cases hx; exact ⟨.int 7, .int 7, rfl⟩
      | 2, hx => cases hx; exact ⟨.str _, .str _, rfl⟩
      | 3, hx => cases hx; exact ⟨.list (List.replicate 17 (pairD (0, 0))), .lst (.inl (.inl (S_H53 _ _ e_p52))) (Dall 17), rfl⟩
    refine r_forList (fun i σ H1 => Same H53 H1 ∧ ∃ o, σ = [some (.ref l), some (.ref lk), some (.ref wd), some (.int k), some wv, some (.ref pz), some (.ref p13), some sv, o, none]) (.inl (.inl e_p53)) ⟨Same.refl _, _, rfl⟩ (fun i σ H1 _ p => .inl (.inl (p.1 _ _ e_p53))) ?_ ?_
    · rintro i x σ H60 hx ⟨S60, o, rfl⟩
      obtain ⟨d, Dx, hmx⟩ := Dth i x hx
      walk_at "rd"
      refine ⟨by show (0 : Nat) ≤ sizeLine; decide, fun p61 n_p61 => ?_⟩
      generalize hG : upd _ p61 _ = H61
      obtain ⟨S_H61, e_p61⟩ := eq_new hG n_p61
      clear hG
      walk_at "rd"
      refine ⟨_, d, _, .list [], .list [.str "line", .int (-1)], rfl, (Dx.same S60).same S_H61, .lst (.inl (.inl e_p61)) .nil, by unfold refP; rw [hmx], fun u H62 S_H62 hu => ?_⟩
      walk_at "rd"
      refine ⟨by show (2 : Nat) ≤ sizeLine; decide, fun p63 n_p63 => ?_⟩
      generalize hG : upd _ p63 _ = H63
      obtain ⟨S_H63, e_p63⟩ := eq_new hG n_p63
      clear hG
      walk_at "rd"
      refine r_neD (hu.same S_H63) (dp_list2 e_p63 (.str _) (.int _)) (shaped_line _) (shaped_line _) ?_
      rw [eqv_shaped (shaped_line _)]
      walk_at "rd"
      refine ⟨_, d, .list [.str "line", .int (-1)], rfl, Dx.same (S60.trans ((S_H61.trans S_H62).trans S_H63)), by unfold unclP; rw [hmx], fun u H64 S_H64 hu => ?_⟩
      walk_at "rd"
      refine ⟨by show (2 : Nat) ≤ sizeLine; decide, fun p65 n_p65 => ?_⟩
      generalize hG : upd _ p65 _ = H65
      obtain ⟨S_H65, e_p65⟩ := eq_new hG n_p65
      clear hG
      walk_at "rd"
      refine r_neD (hu.same S_H65) (dp_list2 e_p65 (.str _) (.int _)) (shaped_line _) (shaped_line _) ?_
      rw [eqv_shaped (shaped_line _)]
      walk_at "rd"
      exact ⟨S60.trans ((((S_H61.trans S_H62).trans S_H63).trans S_H64).trans S_H65), _, rfl⟩
    rintro σ H70 ⟨S70, o, rfl⟩
    have hp70 : PoolAt H70 l n := (((((hp45.same S_H50).same S_H51).same S_H52).same S_H53).same S70)
    walk_at "rd"
    refine ⟨by show (4 : Nat) ≤ sizeLine; decide, fun p71 n_p71 => ?_⟩
    generalize hG : upd _ p71 _ = H71
    obtain ⟨S_H71, e_p71⟩ := eq_new hG n_p71
    clear hG
    walk_at "rd"
    refine ⟨l, n, 4, rfl, by omega, hp70.same S_H71, fun i4 H72 a4 b4 o72 hp72 => ?_⟩
    obtain ⟨bv, bd, hbv, Db, hbb⟩ : ∃ bv bd, atI [V.int 8, V.int (-1), V.non, V.bl false] i4 = some bv ∧ (∀ H, Dp K H bv bd) ∧ okNum bd 7 = false := by
      have hi : i4 = 0 ∨ i4 = 1 ∨ i4 = 2 ∨ i4 = 3 := by omega
      rcases hi with rfl | rfl | rfl | rfl
      · exact ⟨_, .int 8, rfl, fun _ => .int _, by decide⟩
      · exact ⟨_, .int (-1), rfl, fun _ => .int _, by decide⟩
      · exact ⟨_, .none, rfl, fun _ => .non, by decide⟩
      · exact ⟨_, .bool false, rfl, fun _ => .bl _, by decide⟩
    have e71 : H72 p71 = some (.lst [V.int 8, V.int (-1), V.non, V.bl false]) := o72 _ _ (hp70.ne n_p71) e_p71
    refine r_ixL (.inl (.inl e71)) hbv ?_
    walk_at "rd"
    refine ⟨.non, _, false, bv, bd, bv, bd, rfl, .base .non, T.is_NoneType_Register, Db _, Db _, fun H73 S73 => ?_⟩
    rw [show unmP false bd bd = .str "inner" from rfl]
    walk_at "rd"
    intro z dz hz hdz hne
    walk_at "rd"
    have hZ : ∀ {H1 : Hp} {z dz : Addr}, H1 z = some (.ins T.C_Zero dz []) → RegAt T.C_Zero T.C_Mix H1 (.ref z) [] := fun h => ⟨_, _, rfl, h⟩
    refine ⟨_, _, true, bv, bd, bv, bd, rfl, (hZ upd_same).ty T, T.is_Zero_Register, Db _, Db _, fun H74 S74 => ?_⟩
    rw [show unmP true bd bd = .str "measurer" by unfold unmP; rw [if_neg (by decide), if_pos hbb]]
    walk_at "rd"
    intro z2 dz2 hz2 hdz2 hne2
    walk_at "rd"
    refine ⟨_, _, true, _, .int 7, bv, bd, rfl, (hZ upd_same).ty T, T.is_Zero_Register, .int 7, Db _, fun H75 S75 => ?_⟩
    rw [show unmP true (.int 7) bd = .str "target" by unfold unmP; rw [if_neg (by decide), if_neg (by decide), if_pos hbb]]
    walk_at "rd"
    intro z3 dz3 hz3 hdz3 hne3
    walk_at "rd"
    intro z4 dz4 hz4 hdz4 hne4
    have s6 := same_made (o := .own z4) (u := .ins T.C_Mix dz4 []) hz4 hdz4
    refine ⟨z4, dz4, _, _, true, _, .int 0, _, .int 7, _, .int 0, rfl, upd_same, ((hZ upd_same).same s6).ty T, T.is_Zero_Register, .int 0, .int 7, .int 0, (fun z => nomatch z), (fun _ z => nomatch z), (fun _ _ z => nomatch z), fun _ _ _ => ⟨false, rfl, fun H76 f h3 => ⟨rfl, ?_⟩⟩⟩
    walk_at "rd"
    have hR : RegAt T.C_Zero T.C_Mix H76 (.ref z4) [(0, 7, false)] := ⟨z4, dz4, _, rfl, h3, (hZ upd_same).same (f.made hz4 hdz4)⟩
    refine ⟨_, _, true, _, .int 7, _, .int 0, rfl, hR.ty T, T.is_Mix_Register, .int 7, .int 0, fun H77 S77 => ?_⟩
    rw [show unmP true (.int 7) (.int 0) = .non from rfl]
    walk_at "rd"
    refine ⟨rfl, ?_⟩
    exact q _
end
end R82
namespace R82
open PySem PySem.Spec PyProof.Rows L2
section
variable {P : Program} {w : World} {K : PySem.W.Frag} {mg : Str → Option Value} {base : Heap} {H H' : Hp}
theorem RowAt.take : ∀ {xs : List V} {r : Row} (n : Nat), RowAt H xs r → RowAt H (xs.take n) (r.take n)
  | _, _, 0, _ => .nil
  | _, _, _ + 1, .nil => .nil
  | _, _, n + 1, .cons a t => .cons a (RowAt.take n t)
theorem RowAt.drop : ∀ {xs : List V} {r : Row} (n : Nat), RowAt H xs r → RowAt H (xs.drop n) (r.drop n)
  | _, _, 0, h => h
  | _, _, _ + 1, .nil => .nil
  | _, _, n + 1, .cons _ t => RowAt.drop n t
theorem RowAt.set {p : Addr} {m t : Int} (h : H p = some (.tup [.int m, .int t])) : ∀ {xs : List V} {r : Row} (n : Nat), RowAt H xs r → RowAt H (xs.set n (.ref p)) (r.set n (m, t))
  | _, _, _, .nil => .nil
  | _, _, 0, .cons _ u => .cons ⟨p, rfl, h⟩ u
  | _, _, n + 1, .cons a u => .cons a (RowAt.set h n u)
theorem RowAt.same {xs : List V} {r : Row} (s : Same H H') (h : RowAt H xs r) : RowAt H' xs r := h.keep fun a o e _ => s a o e
theorem putN {l a : Addr} {o : HO} (f : Off l H H') (h : H a = none) : Off l H (upd H' a o) := fun b u n e => by
  rw [upd_ne (ne_of_none e h)]; exact f b u n e
def spOther (K : PySem.W.Frag) : Sp := fun vs H Q _ => ∃ (l lk wd : Addr) (n : Nat) (row : Row) (gs : List Bool), vs = [.ref l, .ref lk, .ref wd] ∧ PoolAt H l n ∧ Lw K (wo l H) lk wd row gs ∧ okRow row ∧ row.length ≤ 16 ∧
  ∀ (H' : Hp) (p a b : Addr) (xs : List V) (row' : Row) (gs' : List Bool), Off l H H' → PoolAt H' l n → H' p = some (.lst [.ref a, .ref b]) → H' a = some (.lst xs) → RowAt H' xs row' → H' b = some (.lst (gs'.map V.bl)) → row'.length = gs'.length → row'.length ≤ 16 → okRow row' → p ≠ l → a ≠ l → b ≠ l → Q (.ref p) H'
theorem sc__law_other : FnScope ["pool", "looks", "words", "kind", "at"] ["pool", "looks", "words"] (defScope s__law_other) := ⟨rfl, rfl, rfl, by decide +kernel, rfl, by decide +kernel, by decide +kernel⟩
theorem G__law_other (T : Top P K mg) : FnOk P w K mg base CX0 2 T.a__law_other T.d__law_other ["pool", "looks", "words"] (spOther K) := by
  refine T.F__law_other.ok sc__law_other (fun vs H Q E h => ?_) (fun cdv A outer s H vs Q E hr h => ?_)
  · obtain ⟨_, _, _, _, _, _, rfl, _⟩ := h; rfl
  · obtain ⟨l, lk, wd, n, row, gs, rfl, hp, hL, hok, h16, q⟩ := h
    refine ⟨_, (pss_cons (ps_set (i := 1) sc__law_other.nd rfl (Or.inl rfl) (pe_callTy (call_listK (K := K) rfl) (by rfl) T.z_list (show bootBuiltins "list" = some (.type "list") by decide +kernel) (pa_cons (pv 1) pa_nil)))
  (pss_cons (ps_set (i := 2) sc__law_other.nd rfl (Or.inl rfl) (pe_callTy (call_listK (K := K) rfl) (by rfl) T.z_list (show bootBuiltins "list" = some (.type "list") by decide +kernel) (pa_cons (pv 2) pa_nil)))
  (pss_cons (ps_set (i := 3) sc__law_other.nd rfl (Or.inl rfl) (pe_call (G__law_next T) (hr.mono (by decide)) rfl T.m__law_next T.F__law_next.kp T.b__law_next .nil pass0 (pa_cons (pv 0) (pa_cons pe_int pa_nil))))
  (pss_cons (ps_set (i := 4) sc__law_other.nd rfl (Or.inl rfl) (pe_call (G__law_next T) (hr.mono (by decide)) rfl T.m__law_next T.F__law_next.kp T.b__law_next .nil pass0 (pa_cons (pv 0) (pa_cons (pe_callB (call_max2 rfl) (by rfl) T.z_max (show bootBuiltins "max" = some (.builtin "max") by decide +kernel) (pa_cons pe_int (pa_cons (pe_callB call_len_seq (by rfl) T.z_len (show bootBuiltins "len" = some (.builtin "len") by decide +kernel) (pa_cons (pv 1) pa_nil)) pa_nil))) pa_nil))))
  (pss_cons (ps_if (PW.pt (pw_and (pt_cmpR op_eq (pv 3) pe_int (nomark _)) (pw_and1 (pt_cmpR op_gt (pe_callB call_len_seq (by rfl) T.z_len (show bootBuiltins "len" = some (.builtin "len") by decide +kernel) (pa_cons (pv 1) pa_nil)) pe_int (nomark _))))) (pss_one (ps_asg (pe_not (pe_ix ix_list (pv 2) (pv 4) (fun _ _ => rfl))) (pg_sub (pv 2) (pv 4) set_list))) (pss_one (ps_if (PW.pt (pw_and (pt_cmpR op_eq (pv 3) pe_int (nomark _)) (pw_and1 (pt_cmpR op_gt (pe_callB call_len_seq (by rfl) T.z_len (show bootBuiltins "len" = some (.builtin "len") by decide +kernel) (pa_cons (pv 1) pa_nil)) pe_int (nomark _))))) (pss_one (ps_asg (pe_tup (pa_cons (pe_op op_mod (pe_callTy call_int1 (by rfl) T.z_int (show bootBuiltins "int" = some (.type "int") by decide +kernel) (pa_cons (pe_op op_add (pe_op op_add (pe_ix ix_tup (pe_ix ix_list (pv 1) (pv 4) (fun _ _ => rfl)) pe_int (fun _ _ => rfl)) pe_int) (pe_call (G__law_next T) (hr.mono (by decide)) rfl T.m__law_next T.F__law_next.kp T.b__law_next .nil pass0 (pa_cons (pv 0) (pa_cons pe_int pa_nil)))) pa_nil)) pe_int) (pa_cons (pe_ix ix_tup (pe_ix ix_list (pv 1) (pv 4) (fun _ _ => rfl)) pe_int (fun _ _ => rfl)) pa_nil))) (pg_sub (pv 1) (pv 4) set_list))) (pss_one (ps_if (PW.pt (pw_and (pt_cmpR op_eq (pv 3) pe_int (nomark _)) (pw_and1 (pt_cmpR op_gt (pe_callB call_len_seq (by rfl) T.z_len (show bootBuiltins "len" = some (.builtin "len") by decide +kernel) (pa_cons (pv 1) pa_nil)) pe_int (nomark _))))) (pss_one (ps_asg (pe_tup (pa_cons (pe_ix ix_tup (pe_ix ix_list (pv 1) (pv 4) (fun _ _ => rfl)) pe_int (fun _ _ => rfl)) (pa_cons (pe_op op_mod (pe_callTy call_int1 (by rfl) T.z_int (show bootBuiltins "int" = some (.type "int") by decide +kernel) (pa_cons (pe_op op_add (pe_op op_add (pe_ix ix_tup (pe_ix ix_list (pv 1) (pv 4) (fun _ _ => rfl)) pe_int (fun _ _ => rfl)) pe_int) (pe_call (G__law_next T) (hr.mono (by decide)) rfl T.m__law_next T.F__law_next.kp T.b__law_next .nil pass0 (pa_cons (pv 0) (pa_cons pe_int pa_nil)))) pa_nil)) pe_int) pa_nil))) (pg_sub (pv 1) (pv 4) set_list))) (pss_one (ps_if (PW.pt (pw_and (pt_cmpR op_eq (pv 3) pe_int (nomark _)) (pw_and1 (pt_cmpR op_lt (pe_callB call_len_seq (by rfl) T.z_len (show bootBuiltins "len" = some (.builtin "len") by decide +kernel) (pa_cons (pv 1) pa_nil)) pe_int (nomark _))))) (pss_cons (ps_set (i := 1) sc__law_other.nd rfl (Or.inl rfl) (pe_op op_cat (pe_op op_cat (pe_slice sl_list (pv 1) po_none (po_some (pv 4))) (pe_lst (pa_cons (pe_tup (pa_cons (pe_call (G__law_next T) (hr.mono (by decide)) rfl T.m__law_next T.F__law_next.kp T.b__law_next .nil pass0 (pa_cons (pv 0) (pa_cons pe_int pa_nil))) (pa_cons (pe_call (G__law_next T) (hr.mono (by decide)) rfl T.m__law_next T.F__law_next.kp T.b__law_next .nil pass0 (pa_cons (pv 0) (pa_cons pe_int pa_nil))) pa_nil))) pa_nil))) (pe_slice sl_list (pv 1) (po_some (pv 4)) po_none)))
  (pss_one (ps_set (i := 2) sc__law_other.nd rfl (Or.inl rfl) (pe_op op_cat (pe_op op_cat (pe_slice sl_list (pv 2) po_none (po_some (pv 4))) (pe_lst (pa_cons pe_bl pa_nil))) (pe_slice sl_list (pv 2) (po_some (pv 4)) po_none))))) (pss_one (ps_if (PW.pt (pw_and (pt_cmpR op_eq (pv 3) pe_int (nomark _)) (pw_and1 (pt_cmpR op_gt (pe_callB call_len_seq (by rfl) T.z_len (show bootBuiltins "len" = some (.builtin "len") by decide +kernel) (pa_cons (pv 1) pa_nil)) pe_int (nomark _))))) (pss_cons (ps_set (i := 1) sc__law_other.nd rfl (Or.inl rfl) (pe_op op_cat (pe_slice sl_list (pv 1) (po_some pe_int) po_none) (pe_slice sl_list (pv 1) po_none (po_some pe_int))))
  (pss_one (ps_set (i := 2) sc__law_other.nd rfl (Or.inl rfl) (pe_op op_cat (pe_slice sl_list (pv 2) (po_some pe_int) po_none) (pe_slice sl_list (pv 2) po_none (po_some pe_int)))))) pss_nil)))))))))
  (pss_one (ps_ret (pe_lst (pa_cons (pv 1) (pa_cons (pv 2) pa_nil)))))))))), ?_⟩
    have hsz : (10000 : Nat) < sizeLine := by decide
    obtain ⟨⟨xs, hx, hrow⟩, hws, hlen, hsm⟩ := hL
    have hlx := hrow.length
    walk_at "rd"
    refine r_listL (wo_le.seq hx) ?_
    intro a n_a
    generalize hG : upd _ a _ = H1
    obtain ⟨S_H1, e_a⟩ := eq_new hG n_a
    clear hG
    walk_at "rd"
    refine r_listL (S_H1.seq (wo_le.seq hws)) ?_
    intro b n_b
    generalize hG : upd _ b _ = H2
    obtain ⟨S_H2, e_b⟩ := eq_new hG n_b
    clear hG
    walk_at "rd"
    have S02 : Same H H2 := S_H1.trans S_H2
    have hp2 := hp.same S02
    have nal : a ≠ l := hp.ne n_a
    have nbl : b ≠ l := (hp.same S_H1).ne n_b
    have nab : a ≠ b := ne_of_none e_a n_b
    have n0b : H b = none := S_H1.free n_b
    refine ⟨l, n, 5, rfl, by omega, hp2, fun kind H3 k0 k1 o3 hp3 => ?_⟩
    walk_at "rd"
    have ea3 : H3 a = some (.lst xs) := o3 _ _ nal (S_H2 _ _ e_a)
    have eb3 : H3 b = some (.lst (gs.map V.bl)) := o3 _ _ nbl e_b
    refine r_lenL (.inl (.inl ea3)) ?_
    walk_at "rd"
    generalize hmx : (if (xs.length : Int) > 1 then (xs.length : Int) else 1) = mx
    refine ⟨l, n, mx, rfl, by rw [← hmx]; split <;> omega, hp3, fun at_ H4 at0 at1 o4 hp4 => ?_⟩
    obtain ⟨k, rfl⟩ : ∃ k : Nat, at_ = k := ⟨at_.toNat, by omega⟩
    have ea4 : H4 a = some (.lst xs) := o4 _ _ nal ea3
    have eb4 : H4 b = some (.lst (gs.map V.bl)) := o4 _ _ nbl eb3
    have O04 : Off l H H4 := ((Off.of_same S02).trans o3).trans o4
    have hrow4 : RowAt H4 xs row := (hrow.same O04.wo).same wo_le
    walk_at "rs"
    refine r_cut (fun σ' H' => Off l H H' ∧ PoolAt H' l n ∧ ∃ (a b : Addr) (xs : List V) (row' : Row) (gs' : List Bool), σ' = [some (.ref l), some (.ref a), some (.ref b), some (.int kind), some (.int k)] ∧ H' a = some (.lst xs) ∧ RowAt H' xs row' ∧ H' b = some (.lst (gs'.map V.bl)) ∧ row'.length = gs'.length ∧ row'.length ≤ 16 ∧ okRow row' ∧ a ≠ l ∧ b ≠ l) (fun N' hN => ?_) ?_
    · have hk : 0 < row.length → k < row.length := fun h => by rw [← hmx] at at1; split at at1 <;> omega
      have hk1 : k ≤ row.length := by rw [← hmx] at at1; split at at1 <;> omega
      have same : N' [some (.ref l), some (.ref a), some (.ref b), some (.int kind), some (.int k)] H4 := hN _ _ ⟨O04, hp4, a, b, xs, row, gs, rfl, ea4, hrow4, eb4, hlen, h16, hok, nal, nbl⟩
      have hk5 : kind = 0 ∨ kind = 1 ∨ kind = 2 ∨ kind = 3 ∨ kind = 4 := by omega
      rcases hk5 with rfl | rfl | rfl | rfl | rfl
      · by_cases h0 : row.length = 0
        · have hx0 : xs = [] := List.eq_nil_of_length_eq_zero (by omega)
          subst hx0
          walk_at "rk"
          refine r_lenL (.inl (.inl ea4)) ?_
          walk_at "rk"
          exact same
        · have hkl := hk (by omega)
          walk_at "rk"
          refine r_lenL (.inl (.inl ea4)) ?_
          walk_at "rk"
          refine r_iT (by simp only [decide_eq_true_eq]; omega) ?_
          walk_at "rk"
          obtain ⟨g, hg⟩ : ∃ g, gs[k]? = some g := ⟨_, List.getElem?_eq_getElem (by omega)⟩
          refine r_ixL (.inl (.inl eb4)) (atI_nat (v := .bl g) (by rw [List.getElem?_map, hg]; rfl)) ?_
          walk_at "rd"
          refine ⟨b, _, k, k, rfl, rfl, eb4, ixN_k (by rw [List.length_map]; omega), ?_⟩
          have fr : Fr [b] H4 (upd H4 b (.lst ((gs.map V.bl).set k (.bl !g)))) := Fr.refl.put eb4 (by simp)
          refine hN _ _ ⟨putN O04 n0b, ?_, a, b, xs, row, gs.set k (!g), rfl, fr.ls _ _ (by simp; exact nab) ea4, hrow4.keep fr.im, ?_, by rw [List.length_set]; exact hlen, h16, hok, nal, nbl⟩
          · obtain ⟨ns, z1, z2⟩ := hp4
            exact ⟨ns, fr.ls _ _ (by simp; exact nbl.symm) z1, z2⟩
          · rw [List.map_set]; exact upd_same
      · by_cases h0 : row.length = 0
        · have hx0 : xs = [] := List.eq_nil_of_length_eq_zero (by omega)
          subst hx0
          walk_at "rk"
          refine r_lenL (.inl (.inl ea4)) ?_
          walk_at "rk"
          exact same
        · have hkl := hk (by omega)
          walk_at "rk"
          refine r_lenL (.inl (.inl ea4)) ?_
          walk_at "rk"
          refine r_iT (by simp only [decide_eq_true_eq]; omega) ?_
          walk_at "rk"
          obtain ⟨mt, hmt⟩ : ∃ mt, row[k]? = some mt := ⟨_, List.getElem?_eq_getElem hkl⟩
          obtain ⟨m, t⟩ := mt
          obtain ⟨x, hxk⟩ : ∃ x, xs[k]? = some x := ⟨_, List.getElem?_eq_getElem (by omega)⟩
          obtain ⟨m', t', p, hmt', rfl, hpp⟩ := hrow4.get hxk
          rw [hmt] at hmt'; cases hmt'
          obtain ⟨om, ot⟩ := hok _ (List.mem_of_getElem? hmt)
          refine r_ixL (.inl (.inl ea4)) (atI_nat hxk) ?_
          walk_at "rk"
          refine r_ixT (.inl (.inl hpp)) rfl ?_
          walk_at "rk"
          refine ⟨l, n, 7, rfl, by omega, hp4, fun d H5 d0 d1 o5 hpl5 => ?_⟩
          have ea5 : H5 a = some (.lst xs) := o5 _ _ nal ea4
          have eb5 : H5 b = some (.lst (gs.map V.bl)) := o5 _ _ nbl eb4
          have hrow5 : RowAt H5 xs row := hrow4.keep (Off.im o5 (hp4.choose_spec.1))
          have hp5 : H5 p = some (.tup [.int m, .int t]) := Off.im o5 (hp4.choose_spec.1) _ _ hpp (fun _ z => nomatch z)
          walk_at "rk"
          refine r_ixL (.inl (.inl ea5)) (atI_nat hxk) ?_
          walk_at "rk"
          refine r_ixT (.inl (.inl hp5)) rfl ?_
          walk_at "rk"
          refine ⟨by show (2 : Nat) ≤ sizeLine; decide, fun p6 n_p6 => ?_⟩
          generalize hG : upd _ p6 _ = H6
          obtain ⟨S_H6, e_p6⟩ := eq_new hG n_p6
          clear hG
          walk_at "rd"
          have ea6 := S_H6 _ _ ea5
          have fr : Fr [a] H6 (upd H6 a (.lst (xs.set k (.ref p6)))) := Fr.refl.put ea6 (by simp)
          refine ⟨a, _, k, k, rfl, rfl, ea6, ixN_k (by omega), ?_⟩
          refine hN _ _ ⟨putN (O04.trans (o5.trans (.of_same S_H6))) n_a, ?_, a, b, _, row.set k ((m + 1 + d) % 8, t), gs, rfl, upd_same, ((hrow5.same S_H6).keep fr.im).set (fr.im _ _ e_p6 fun _ z => nomatch z) k, fr.ls _ _ (by simp; exact nab.symm) (S_H6 _ _ eb5), by rw [List.length_set]; exact hlen, by rw [List.length_set]; exact h16, ?_, nal, nbl⟩
          · obtain ⟨ns, z1, z2⟩ := hpl5
            exact ⟨ns, fr.ls _ _ (by simp; exact nal.symm) (S_H6 _ _ z1), z2⟩
          · intro q hq
            rcases List.mem_or_eq_of_mem_set hq with hq | rfl
            · exact hok q hq
            · exact ⟨okNum7 (Int.emod_nonneg _ (by decide)) (Int.emod_lt_of_pos _ (by decide)), ot⟩
      · by_cases h0 : row.length = 0
        · have hx0 : xs = [] := List.eq_nil_of_length_eq_zero (by omega)
          subst hx0
          walk_at "rk"
          refine r_lenL (.inl (.inl ea4)) ?_
          walk_at "rk"
          exact same
        · have hkl := hk (by omega)
          walk_at "rk"
          refine r_lenL (.inl (.inl ea4)) ?_
          walk_at "rk"
          refine r_iT (by simp only [decide_eq_true_eq]; omega) ?_
          walk_at "rk"
          obtain ⟨mt, hmt⟩ : ∃ mt, row[k]? = some mt := ⟨_, List.getElem?_eq_getElem hkl⟩
          obtain ⟨m, t⟩ := mt
          obtain ⟨x, hxk⟩ : ∃ x, xs[k]? = some x := ⟨_, List.getElem?_eq_getElem (by omega)⟩
          obtain ⟨m', t', p, hmt', rfl, hpp⟩ := hrow4.get hxk
          rw [hmt] at hmt'; cases hmt'
          obtain ⟨om, ot⟩ := hok _ (List.mem_of_getElem? hmt)
          refine r_ixL (.inl (.inl ea4)) (atI_nat hxk) ?_
          walk_at "rk"
          refine r_ixT (.inl (.inl hpp)) rfl ?_
          walk_at "rk"
          refine r_ixL (.inl (.inl ea4)) (atI_nat hxk) ?_
          walk_at "rk"
          refine r_ixT (.inl (.inl hpp)) rfl ?_
          walk_at "rk"
          refine ⟨l, n, 7, rfl, by omega, hp4, fun d H5 d0 d1 o5 hpl5 => ?_⟩
          have ea5 : H5 a = some (.lst xs) := o5 _ _ nal ea4
          have eb5 : H5 b = some (.lst (gs.map V.bl)) := o5 _ _ nbl eb4
          have hrow5 : RowAt H5 xs row := hrow4.keep (Off.im o5 (hp4.choose_spec.1))
          have hp5 : H5 p = some (.tup [.int m, .int t]) := Off.im o5 (hp4.choose_spec.1) _ _ hpp (fun _ z => nomatch z)
          walk_at "rk"
          refine ⟨by show (2 : Nat) ≤ sizeLine; decide, fun p6 n_p6 => ?_⟩
          generalize hG : upd _ p6 _ = H6
          obtain ⟨S_H6, e_p6⟩ := eq_new hG n_p6
          clear hG
          walk_at "rd"
          have ea6 := S_H6 _ _ ea5
          have fr : Fr [a] H6 (upd H6 a (.lst (xs.set k (.ref p6)))) := Fr.refl.put ea6 (by simp)
          refine ⟨a, _, k, k, rfl, rfl, ea6, ixN_k (by omega), ?_⟩
          refine hN _ _ ⟨putN (O04.trans (o5.trans (.of_same S_H6))) n_a, ?_, a, b, _, row.set k (m, (t + 1 + d) % 8), gs, rfl, upd_same, ((hrow5.same S_H6).keep fr.im).set (fr.im _ _ e_p6 fun _ z => nomatch z) k, fr.ls _ _ (by simp; exact nab.symm) (S_H6 _ _ eb5), by rw [List.length_set]; exact hlen, by rw [List.length_set]; exact h16, ?_, nal, nbl⟩
          · obtain ⟨ns, z1, z2⟩ := hpl5
            exact ⟨ns, fr.ls _ _ (by simp; exact nal.symm) (S_H6 _ _ z1), z2⟩
          · intro q hq
            rcases List.mem_or_eq_of_mem_set hq with hq | rfl
            · exact hok q hq
            · exact ⟨om, okNum7 (Int.emod_nonneg _ (by decide)) (Int.emod_lt_of_pos _ (by decide))⟩
      · by_cases h15 : row.length < 16
        · walk_at "rk"
          refine r_lenL (.inl (.inl ea4)) ?_
          walk_at "rk"
          refine r_iT (by simp only [decide_eq_true_eq]; omega) ?_
          walk_at "rk"
          refine r_slL (.inl (.inl ea4)) ?_
          rw [cutV_to]
          intro p1 n_p1
          generalize hG : upd _ p1 _ = H5
          obtain ⟨S_H5, e_p1⟩ := eq_new hG n_p1
          clear hG
          walk_at "rd"
          have hp5 := hp4.same S_H5
          refine ⟨l, n, 8, rfl, by omega, hp5, fun i1 H6 a1 b1 o6 hp6 => ?_⟩
          walk_at "rk"
          refine ⟨l, n, 8, rfl, by omega, hp6, fun i2 H7 a2 b2 o7 hp7 => ?_⟩
          have o57 : Off l H5 H7 := o6.trans o7
          have hrow7 : RowAt H7 xs row := (hrow4.same S_H5).keep (o57.im (hp5.choose_spec.1))
          have ea7 : H7 a = some (.lst xs) := o57 _ _ nal (S_H5 _ _ ea4)
          have eb7 : H7 b = some (.lst (gs.map V.bl)) := o57 _ _ nbl (S_H5 _ _ eb4)
          have e17 : H7 p1 = some (.lst (xs.take k)) := o57 _ _ (hp4.ne n_p1) e_p1
          have O07 : Off l H H7 := (O04.trans (.of_same S_H5)).trans o57
          walk_at "rk"
          refine ⟨by show (2 : Nat) ≤ sizeLine; decide, fun p8 n_p8 => ?_⟩
          generalize hG : upd _ p8 _ = H8
          obtain ⟨S_H8, e_p8⟩ := eq_new hG n_p8
          clear hG
          walk_at "rd"
          refine ⟨by show (1 : Nat) ≤ sizeLine; decide, fun p9 n_p9 => ?_⟩
          generalize hG : upd _ p9 _ = H9
          obtain ⟨S_H9, e_p9⟩ := eq_new hG n_p9
          clear hG
          walk_at "rd"
          refine r_cat (xs := xs.take k) (zs := [.ref p8]) (S_H9 _ _ (S_H8 _ _ e17)) e_p9 (by rw [List.length_take]; show _ + 1 ≤ _; omega) ?_
          intro p10 n_p10
          generalize hG : upd _ p10 _ = H10
          obtain ⟨S_H10, e_p10⟩ := eq_new hG n_p10
          clear hG
          walk_at "rd"
          refine r_slL (.inl (.inl (S_H10 _ _ (S_H9 _ _ (S_H8 _ _ ea7))))) ?_
          rw [cutV_from]
          intro p11 n_p11
          generalize hG : upd _ p11 _ = H11
          obtain ⟨S_H11, e_p11⟩ := eq_new hG n_p11
          clear hG
          walk_at "rd"
          refine r_cat (xs := xs.take k ++ [.ref p8]) (zs := xs.drop k) (S_H11 _ _ e_p10) e_p11 (by simp only [List.length_append, List.length_take, List.length_drop, List.length_singleton]; omega) ?_
          intro p12 n_p12
          generalize hG : upd _ p12 _ = H12
          obtain ⟨S_H12, e_p12⟩ := eq_new hG n_p12
          clear hG
          walk_at "rd"
          have S712 : Same H7 H12 := ((((S_H8.trans S_H9).trans S_H10).trans S_H11).trans S_H12)
          refine r_slL (.inl (.inl (S712 _ _ eb7))) ?_
          rw [cutV_to]
          intro p13 n_p13
          generalize hG : upd _ p13 _ = H13
          obtain ⟨S_H13, e_p13⟩ := eq_new hG n_p13
          clear hG
          walk_at "rd"
          refine ⟨by show (1 : Nat) ≤ sizeLine; decide, fun p14 n_p14 => ?_⟩
          generalize hG : upd _ p14 _ = H14
          obtain ⟨S_H14, e_p14⟩ := eq_new hG n_p14
          clear hG
          walk_at "rd"
          refine r_cat (xs := (gs.map V.bl).take k) (zs := [.bl true]) (S_H14 _ _ e_p13) e_p14 (by rw [List.length_take, List.length_map]; show _ + 1 ≤ _; omega) ?_
          intro p15 n_p15
          generalize hG : upd _ p15 _ = H15
          obtain ⟨S_H15, e_p15⟩ := eq_new hG n_p15
          clear hG
          walk_at "rd"
          refine r_slL (.inl (.inl (S_H15 _ _ (S_H14 _ _ (S_H13 _ _ (S712 _ _ eb7)))))) ?_
          rw [cutV_from]
          intro p16 n_p16
          generalize hG : upd _ p16 _ = H16
          obtain ⟨S_H16, e_p16⟩ := eq_new hG n_p16
          clear hG
          walk_at "rd"
          refine r_cat (xs := (gs.map V.bl).take k ++ [.bl true]) (zs := (gs.map V.bl).drop k) (S_H16 _ _ e_p15) e_p16 (by simp only [List.length_append, List.length_take, List.length_drop, List.length_singleton, List.length_map]; omega) ?_
          intro p17 n_p17
          generalize hG : upd _ p17 _ = H17
          obtain ⟨S_H17, e_p17⟩ := eq_new hG n_p17
          clear hG
          walk_at "rd"
          have S1217 : Same H12 H17 := ((((S_H13.trans S_H14).trans S_H15).trans S_H16).trans S_H17)
          have S717 : Same H7 H17 := S712.trans S1217
          have S817 : Same H8 H17 := (((S_H9.trans S_H10).trans S_H11).trans S_H12).trans S1217
          refine hN _ _ ⟨O07.trans (.of_same S717), hp7.same S717, p12, p17, _, row.take k ++ [(i1, i2)] ++ row.drop k, gs.take k ++ [true] ++ gs.drop k, rfl, S1217 _ _ e_p12, ?_, ?_, ?_, ?_, ?_, ?_, ?_⟩
          · exact (((hrow7.same S717).take k).append (.cons ⟨p8, rfl, S817 _ _ e_p8⟩ .nil)).append ((hrow7.same S717).drop k)
          · rw [e_p17]; simp
          · simp only [List.length_append, List.length_take, List.length_drop, List.length_singleton]; omega
          · simp only [List.length_append, List.length_take, List.length_drop, List.length_singleton]; omega
          · intro q hq
            simp only [List.mem_append, List.mem_singleton] at hq
            rcases hq with (hq | rfl) | hq
            · exact hok q (List.mem_of_mem_take hq)
            · exact ⟨okNum7 a1 b1, okNum7 a2 b2⟩
            · exact hok q (List.mem_of_mem_drop hq)
          · exact (hp7.same ((S_H8.trans S_H9).trans (S_H10.trans S_H11))).ne n_p12
          · exact (hp7.same (S712.trans ((S_H13.trans S_H14).trans (S_H15.trans S_H16)))).ne n_p17
        · walk_at "rk"
          refine r_lenL (.inl (.inl ea4)) ?_
          walk_at "rk"
          refine r_iF (by simp only [decide_eq_false_iff_not]; omega) ?_
          walk_at "rk"
          exact same
      · by_cases h1 : 1 < row.length
        · walk_at "rk"
          refine r_lenL (.inl (.inl ea4)) ?_
          walk_at "rk"
          refine r_iT (by simp only [decide_eq_true_eq]; omega) ?_
          walk_at "rk"
          refine r_slL (.inl (.inl ea4)) ?_
          rw [show (1 : Int) = ((1 : Nat) : Int) from rfl, cutV_from]
          intro p1 n_p1
          generalize hG : upd _ p1 _ = H5
          obtain ⟨S_H5, e_p1⟩ := eq_new hG n_p1
          clear hG
          walk_at "rd"
          refine r_slL (.inl (.inl (S_H5 _ _ ea4))) ?_
          rw [cutV_to]
          intro p2 n_p2
          generalize hG : upd _ p2 _ = H6
          obtain ⟨S_H6, e_p2⟩ := eq_new hG n_p2
          clear hG
          walk_at "rd"
          refine r_cat (S_H6 _ _ e_p1) e_p2 (by simp only [List.length_take, List.length_drop]; omega) ?_
          intro p3 n_p3
          generalize hG : upd _ p3 _ = H7
          obtain ⟨S_H7, e_p3⟩ := eq_new hG n_p3
          clear hG
          walk_at "rd"
          have S47 : Same H4 H7 := (S_H5.trans S_H6).trans S_H7
          refine r_slL (.inl (.inl (S47 _ _ eb4))) ?_
          rw [cutV_from]
          intro p4 n_p4
          generalize hG : upd _ p4 _ = H8
          obtain ⟨S_H8, e_p4⟩ := eq_new hG n_p4
          clear hG
          walk_at "rd"
          refine r_slL (.inl (.inl (S_H8 _ _ (S47 _ _ eb4)))) ?_
          rw [cutV_to]
          intro p5 n_p5
          generalize hG : upd _ p5 _ = H9
          obtain ⟨S_H9, e_p5⟩ := eq_new hG n_p5
          clear hG
          walk_at "rd"
          refine r_cat (S_H9 _ _ e_p4) e_p5 (by simp only [List.length_take, List.length_drop, List.length_map]; omega) ?_
          intro p6 n_p6
          generalize hG : upd _ p6 _ = H10
          obtain ⟨S_H10, e_p6⟩ := eq_new hG n_p6
          clear hG
          walk_at "rd"
          have S710 : Same H7 H10 := (S_H8.trans S_H9).trans S_H10
          have S410 := S47.trans S710
          refine hN _ _ ⟨O04.trans (.of_same S410), hp4.same S410, p3, p6, _, row.drop 1 ++ row.take 1, gs.drop 1 ++ gs.take 1, rfl, S710 _ _ e_p3, ?_, ?_, ?_, ?_, ?_, ?_, ?_⟩
          · exact ((hrow4.same S410).drop 1).append ((hrow4.same S410).take 1)
          · rw [e_p6]; simp
          · simp only [List.length_append, List.length_take, List.length_drop]; omega
          · simp only [List.length_append, List.length_take, List.length_drop]; omega
          · intro q hq
            simp only [List.mem_append] at hq
            rcases hq with hq | hq
            · exact hok q (List.mem_of_mem_drop hq)
            · exact hok q (List.mem_of_mem_take hq)
          · exact (hp4.same (S_H5.trans S_H6)).ne n_p3
          · exact (hp4.same (S47.trans (S_H8.trans S_H9))).ne n_p6
        · walk_at "rk"
          refine r_lenL (.inl (.inl ea4)) ?_
          walk_at "rk"
          refine r_iF (by simp only [decide_eq_false_iff_not]; omega) ?_
          walk_at "rk"
          exact same
    · rintro σ' H' ⟨O, hp', a, b, xs, row', gs', rfl, ea, hr', eb, hl', h16', ok', na, nb⟩
      walk_at "rd"
      refine ⟨by show (2 : Nat) ≤ sizeLine; decide, fun p n_p => ?_⟩
      generalize hG : upd _ p _ = H5
      obtain ⟨S_H5, e_p⟩ := eq_new hG n_p
      clear hG
      walk_at "rd"
      exact q H5 p a b xs row' gs' (O.trans (.of_same S_H5)) (hp'.same S_H5) e_p (S_H5 _ _ ea) (hr'.same S_H5) (S_H5 _ _ eb) hl' h16' ok' (hp'.ne n_p) na nb
end
end R82
namespace R82
open PySem PySem.Spec PyProof.Rows L2
section
variable {P : Program} {w : World} {K : PySem.W.Frag} {mg : Str → Option Value} {base : Heap} {H H' : Hp}
theorem r_ifV {te : TE} {σ : L2.St} {Q : VK} {b : Bool} (Pm : V → Hp → Prop) (h1 : b = true → ∀ Q' : VK, (∀ x H', Pm x H' → Q' x H') → te σ H Q') (h2 : b = false → Pm (.bl false) H) (hQ : ∀ x H', Pm x H' → Q x H') : if b = true then te σ H Q else Q (.bl false) H :=
  r_ite (fun c => h1 c Q hQ) (fun c => hQ _ _ (h2 c))
theorem r_zero {Z M : Addr} {σ : L2.St} {Q : VK} (q : ∀ x H', Same H H' → RegAt Z M H' (.ref x) [] → Q (.ref x) H') : tMake0 Z σ H Q := fun x dx hx hd hn => q x _ (same_made hx hd) ⟨x, dx, rfl, upd_same⟩
theorem mk_mix (T : Top P K mg) {vi vg : V} {m t : Int} {dg : PyData} {g : Bool} {r : Reg} {R : Addr → Hp → Prop} {E : XK} (hv : RegAt T.C_Zero T.C_Mix H vi r) (om : okNum (.int m) 7 = true) (ot : okNum (.int t) 7 = true) (hg : ∀ H, Dp K H vg dg) (hb : boD dg = some g)
    (q : ∀ x H', Same H H' → RegAt T.C_Zero T.C_Mix H' (.ref x) ((m, t, g) :: r) → R x H') : ∀ x dx, H x = none → H dx = none → dx ≠ x → spMix T (.ref x :: ([vi, .int m, .int t, vg] ++ [])) (upd (upd H dx (.own x)) x (.ins T.C_Mix dx [])) (fun v H2 => v = .non ∧ R x H2) E := by
  intro y dy hy hdy hyd
  have s6 := same_made (o := .own y) (u := .ins T.C_Mix dy []) hy hdy
  refine ⟨y, dy, vi, _, true, _, .int m, _, .int t, vg, dg, rfl, upd_same, (hv.same s6).ty T, is_reg T _, .int _, .int _, hg _, fun z => (nomatch z), fun _ z => ?_, fun _ _ z => ?_, fun _ _ _ => ⟨g, hb, fun H3 f h3 => ⟨rfl, ?_⟩⟩⟩
  · rw [om] at z; cases z
  · rw [ot] at z; cases z
  · have s7 := f.made hy hdy
    exact q y H3 s7 ⟨y, dy, vi, rfl, h3, hv.same s7⟩
def listD (p : Int × Int) : PyData := .list [.int p.1, .int p.2]
/-- fresh pairs -/
def PairsAt (Hb H : Hp) (D : Addr) : List V → Row → Prop := Paired fun v r => ∃ p, v = .ref p ∧ H p = some (.lst [.int r.1, .int r.2]) ∧ Hb p = none ∧ p ≠ D
theorem PairsAt.dp {Hb : Hp} {D : Addr} : ∀ {xs : List V} {r : Row}, PairsAt Hb H D xs r → DpAll K H xs (r.map listD)
  | _, _, .nil => .nil
  | _, _, .cons ⟨p, e, h, _⟩ t => .cons (by subst e; exact .lst (.inl (.inl h)) (.cons (.int _) (.cons (.int _) .nil))) (PairsAt.dp t)
theorem PairsAt.keep {Hb : Hp} {D : Addr} (s : Off D H H') : ∀ {xs : List V} {r : Row}, PairsAt Hb H D xs r → PairsAt Hb H' D xs r
  | _, _, .nil => .nil
  | _, _, .cons ⟨p, e, h, n, nd⟩ t => .cons ⟨p, e, s _ _ nd h, n, nd⟩ (PairsAt.keep s t)
theorem PairsAt.append {Hb : Hp} {D : Addr} : ∀ {xs ys : List V} {r q : Row}, PairsAt Hb H D xs r → PairsAt Hb H D ys q → PairsAt Hb H D (xs ++ ys) (r ++ q)
  | _, _, _, _, .nil, h => h
  | _, _, _, _, .cons a t, h => .cons a (PairsAt.append t h)
theorem PairsAt.length {Hb : Hp} {D : Addr} {xs : List V} {r : Row} (h : PairsAt Hb H D xs r) : xs.length = r.length := Paired.length h
theorem rowP_lists : ∀ {row : Row} {n : Nat}, okRow row → rowP n (row.map listD) = .ok row
  | [], _, _ => rfl
  | p :: row, n, h => by
    obtain ⟨h1, h2⟩ := h p (by simp)
    show (match lookP (listD p) with | none => Except.error (n : Int) | some p => match rowP (n + 1) (row.map listD) with | Except.ok r => Except.ok (p :: r) | Except.error e => Except.error e) = _
    have e : lookP (listD p) = some p := by
      show (if okNum (.int p.1) 7 && okNum (.int p.2) 7 then some (p.1, p.2) else none) = some p
      rw [h1, h2]; rfl
    rw [e, rowP_lists fun q hq => h q (by simp [hq])]
theorem mixedP_lists {row : Row} (hl : row.length ≤ 16) (h : okRow row) : mixedP (.list (row.map listD)) = .ok row := by
  unfold mixedP
  show (if 16 < (row.map listD).length then .error (-1) else rowP 0 (row.map listD)) = _
  rw [if_neg (by rw [List.length_map]; omega)]
  exact rowP_lists h
theorem lay_lists : ∀ row : Row, PyData.canLayAll0 (row.map listD) = true
  | [] => by simp [PyData.canLayAll0]
  | g :: gs => by rw [List.map_cons]; simp only [listD, PyData.canLayAll0, PyData.canLay0, lay_lists gs, Bool.and_self]
theorem depth_lists : ∀ row : Row, PyData.depthAll (row.map listD) ≤ 2
  | [] => by simp [PyData.depthAll]
  | g :: gs => by
    have := depth_lists gs
    rw [List.map_cons]; simp only [listD, PyData.depthAll, PyData.depth]; omega
theorem shaped_lists (row : Row) : SeqAt.shaped (.list (row.map listD)) = true := by
  have := depth_lists row
  simp only [SeqAt.shaped, PyData.canLay0, PyData.depth, lay_lists, Bool.true_and]
  exact decide_eq_true (by omega)
theorem eqv_bools : ∀ gs hs : List Bool, PyData.eqvAll (gs.map PyData.bool) (hs.map PyData.bool) = decide (gs = hs)
  | [], [] => by simp [PyData.eqvAll]
  | [], _ :: _ => by simp [PyData.eqvAll]
  | _ :: _, [] => by simp [PyData.eqvAll]
  | g :: gs, h :: hs => by
    simp only [List.map_cons, PyData.eqvAll, PyData.eqv, eqv_bools gs hs]
    by_cases e : g = h <;> simp [e]
theorem eqv_rows : ∀ r q : Row, PyData.eqvAll (r.map pairD) (q.map pairD) = decide (r = q)
  | [], [] => by simp [PyData.eqvAll]
  | [], _ :: _ => by simp [PyData.eqvAll]
  | _ :: _, [] => by simp [PyData.eqvAll]
  | (a, b) :: gs, (c, d) :: hs => by
    simp only [List.map_cons, pairD, PyData.eqvAll, PyData.eqv]
    have ih := eqv_rows gs hs
    have e0 : ∀ r : Row, List.map pairD r = r.map fun p => PyData.tuple [.int p.1, .int p.2] := fun _ => rfl
    rw [ih]
    by_cases e : a = c <;> by_cases e2 : b = d <;> simp [e, e2]
theorem notin_words : ∀ gs : List Bool, (!inV (.bl false) (gs.map V.bl)) = decide (List.replicate gs.length true = gs)
  | [] => rfl
  | true :: gs => by
    have := notin_words gs
    simp only [List.map_cons, List.length_cons, List.replicate_succ, List.cons.injEq, true_and]
    rw [← this]; rfl
  | false :: gs => by
    simp [inV, eqV, List.replicate_succ]
theorem wo_im {l : Addr} {xs : List V} (h : H l = some (.lst xs)) : ∀ a o, H a = some o → (∀ xs, o ≠ .lst xs) → wo l H a = some o := fun a o e n => wo_at (fun z => by subst z; rw [h] at e; cases e; exact n _ rfl) e
theorem put2 {h l : Addr} {o : HO} : Same (wo h (wo l H)) (wo h (wo l (upd H h o))) := fun a u e => by
  obtain ⟨n1, e⟩ := of_wo e
  obtain ⟨n2, e⟩ := of_wo e
  exact wo_at n1 (wo_at n2 (by rw [upd_ne n1]; exact e))
def spLaw (K : PySem.W.Frag) : Sp := fun vs H Q _ => ∃ (a : Addr) (ns : List Int), vs = [.ref a] ∧ SqL K H a (ns.map V.int) ∧ ns.length ≤ 63 ∧ ∀ H', Q (.bl true) H'
/-- what the law keeps all along -/
structure Lk (K : PySem.W.Frag) (H : Hp) (l lk wd : Addr) (row : Row) (gs : List Bool) : Prop where
  pool : PoolAt H l 2520
  lw : Lw K (wo l H) lk wd row gs
theorem Lk.same {l lk wd : Addr} {row : Row} {gs : List Bool} (s : Same H H') (h : Lk K H l lk wd row gs) : Lk K H' l lk wd row gs := ⟨h.pool.same s, h.lw.same (swo s)⟩
theorem Lk.at {l lk wd : Addr} {row : Row} {gs : List Bool} (h : Lk K H l lk wd row gs) : Lw K H lk wd row gs := h.lw.same wo_le
theorem Lk.off {l lk wd : Addr} {row : Row} {gs : List Bool} (f : Off l H H') (p : PoolAt H' l 2520) (h : Lk K H l lk wd row gs) : Lk K H' l lk wd row gs := ⟨p, h.lw.same f.wo⟩
theorem sc_law : FnScope ["script", "pool", "looks", "words", "look", "handed", "word", "pairs", "told", "built", "clean", "other", "second", "same", "flip", "one"] ["script"] (defScope s_law) := ⟨rfl, rfl, rfl, by decide +kernel, rfl, by decide +kernel, by decide +kernel⟩
theorem G_law (T : Top P K mg) : FnOk P w K mg base CX0 40 T.a_law T.d_law ["script"] (spLaw K) := by
  have GM : FnOk P w K mg base CX0 (17 + 2) T.a_Mix_eq T.d_Mix_eq ["self", "other"] (spMeq T 17) := G_Mix_eq T 17
  refine T.F_law.ok sc_law (fun vs H Q E h => ?_) (fun cdv A outer s H vs Q E hr h => ?_)
  · obtain ⟨_, _, rfl, _⟩ := h; rfl
  · obtain ⟨a, ns, rfl, ha, hl, q⟩ := h
    refine ⟨_, (pss_cons (ps_set (i := 1) sc_law.nd rfl (Or.inr rfl) (pe_call (G__law_pool T) (hr.mono (by decide)) rfl T.m__law_pool T.F__law_pool.kp T.b__law_pool .nil pass0 (pa_cons (pv 0) pa_nil)))
  (pss_cons (ps_set (i := 2) sc_law.nd rfl (Or.inl rfl) (pe_call (G__law_row T) (hr.mono (by decide)) rfl T.m__law_row T.F__law_row.kp T.b__law_row .nil pass0 (pa_cons (pv 1) (pa_cons (pe_ix ix_list (pe_lst (pa_cons pe_int (pa_cons pe_int (pa_cons pe_int (pa_cons pe_int (pa_cons pe_int (pa_cons pe_int (pa_cons pe_int pa_nil)))))))) (pe_call (G__law_next T) (hr.mono (by decide)) rfl T.m__law_next T.F__law_next.kp T.b__law_next .nil pass0 (pa_cons (pv 1) (pa_cons pe_int pa_nil))) (fun _ _ => rfl)) pa_nil))))
  (pss_cons (ps_setLc (i := 3) (own := [("look", 4)]) (g := gName 4) (tt := tYes) rfl sc_law.nd rfl rfl (sw_true rfl rfl rfl (by decide +kernel)) (pi_list (pv 2)) (blkOk_by (own := [("look", 4)]) (N := ["script", "pool", "looks", "words", "look", "handed", "word", "pairs", "told", "built", "clean", "other", "second", "same", "flip", "one"]) (sc := defScope s_law) (by decide +kernel)) (fun _ _ _ _ _ => (pg_name (i := 4) sc_law.nd rfl (Or.inl rfl))) (fun _ _ _ _ _ => pts_nil) (fun _ _ _ _ _ => (pe_cmpR op_lt (pe_call (G__law_next T) (hr.mono (by decide)) rfl T.m__law_next T.F__law_next.kp T.b__law_next .nil pass0 (pa_cons (pv 1) (pa_cons pe_int pa_nil))) pe_int (nomark _))))
  (pss_cons (ps_set (i := 5) sc_law.nd rfl (Or.inl rfl) (pe_lst pa_nil))
  (pss_cons (ps_for PassesOwn.never rfl (pi_list (pv 3)) (pg_name (i := 6) sc_law.nd rfl (Or.inl rfl))
  (pss_one (ps_if (pt_val (pv 6)) (pss_one (ps_expr (pe_bm PySem.F.plainAttrs_list PySem.F.slot_list_append PySem.F.type_list_append mt_append (pv 5) (pa_cons (pe_ix ix_list (pe_lst (pa_cons pe_bl (pa_cons pe_int (pa_cons pe_str (pa_cons (pe_lst (pa_cons pe_int pa_nil)) pa_nil))))) (pe_call (G__law_next T) (hr.mono (by decide)) rfl T.m__law_next T.F__law_next.kp T.b__law_next .nil pass0 (pa_cons (pv 1) (pa_cons pe_int pa_nil))) (fun _ _ => rfl)) pa_nil)))) (pss_one (ps_expr (pe_bm PySem.F.plainAttrs_list PySem.F.slot_list_append PySem.F.type_list_append mt_append (pv 5) (pa_cons (pe_ix ix_list (pe_lst (pa_cons pe_bl (pa_cons pe_int (pa_cons pe_str (pa_cons (pe_lst pa_nil) pa_nil))))) (pe_call (G__law_next T) (hr.mono (by decide)) rfl T.m__law_next T.F__law_next.kp T.b__law_next .nil pass0 (pa_cons (pv 1) (pa_cons pe_int pa_nil))) (fun _ _ => rfl)) pa_nil)))))))
  (pss_cons (ps_setLc (i := 7) (own := [("look", 4)]) (g := gName 4) (tt := tYes) rfl sc_law.nd rfl rfl (sw_true rfl rfl rfl (by decide +kernel)) (pi_list (pv 2)) (blkOk_by (own := [("look", 4)]) (N := ["script", "pool", "looks", "words", "look", "handed", "word", "pairs", "told", "built", "clean", "other", "second", "same", "flip", "one"]) (sc := defScope s_law) (by decide +kernel)) (fun _ _ _ _ _ => (pg_name (i := 4) sc_law.nd rfl (Or.inl rfl))) (fun _ _ _ _ _ => pts_nil) (fun _ _ _ _ _ => (pe_callTy (call_listK (K := K) rfl) (by rfl) T.z_list (show bootBuiltins "list" = some (.type "list") by decide +kernel) (pa_cons (pv 4) pa_nil))))
  (pss_cons (ps_set (i := 8) sc_law.nd rfl (Or.inl rfl) (pe_call (G_register_of T) (hr.mono (by decide)) rfl T.m_register_of T.F_register_of.kp T.b_register_of .nil passN (pa_cons (pv 7) (pa_cons (pe_callTy call_tuple_of (by rfl) T.z_tuple (show bootBuiltins "tuple" = some (.type "tuple") by decide +kernel) (pa_cons (pv 5) pa_nil)) pa_nil))))
  (pss_cons (ps_if (PW.pt (pw_or (pt_cmpR (op_neD hr.units) (pv 7) (pe_lc (own := [("look", 4)]) (g := gName 4) (tt := tYes) rfl sc_law.nd (pi_list (pv 2)) (blkOk_by (own := [("look", 4)]) (N := ["script", "pool", "looks", "words", "look", "handed", "word", "pairs", "told", "built", "clean", "other", "second", "same", "flip", "one"]) (sc := defScope s_law) (by decide +kernel)) (fun _ _ _ _ _ => (pg_name (i := 4) sc_law.nd rfl (Or.inl rfl))) (fun _ _ _ _ _ => pts_nil) (fun _ _ _ _ _ => (pe_callTy (call_listK (K := K) rfl) (by rfl) T.z_list (show bootBuiltins "list" = some (.type "list") by decide +kernel) (pa_cons (pv 4) pa_nil)))) (nomark _)) (pw_or1 (pt_not (pt_val (pe_call (G__law_is_register T) (hr.mono (by decide)) rfl T.m__law_is_register T.F__law_is_register.kp T.b__law_is_register .nil pass0 (pa_cons (pv 8) (pa_cons (pv 2) (pa_cons (pv 3) pa_nil))))))))) (pss_one (ps_ret pe_bl)) pss_nil)
  (pss_cons (ps_if (pt_cmpR op_gt (pe_callB call_len_seq (by rfl) T.z_len (show bootBuiltins "len" = some (.builtin "len") by decide +kernel) (pa_cons (pv 7) pa_nil)) pe_int (nomark _)) (pss_cons (ps_asg pe_int (pg_sub (pe_ix ix_list (pv 7) pe_int (fun _ _ => rfl)) pe_int set_list))
  (pss_one (ps_expr (pe_bm PySem.F.plainAttrs_list PySem.F.slot_list_append PySem.F.type_list_append mt_append (pv 7) (pa_cons pe_non pa_nil))))) pss_nil)
  (pss_cons (ps_if (PW.pt (pw_or (pt_not (pt_val (pe_call (G__law_is_register T) (hr.mono (by decide)) rfl T.m__law_is_register T.F__law_is_register.kp T.b__law_is_register .nil pass0 (pa_cons (pv 8) (pa_cons (pv 2) (pa_cons (pv 3) pa_nil)))))) (pw_or1 (pt_not (pt_val (pe_call (G__law_told T) (hr.mono (by decide)) rfl T.m__law_told T.F__law_told.kp T.b__law_told .nil pass0 (pa_cons (pe_call (G_rows_told T) (hr.mono (by decide)) rfl T.m_rows_told T.F_rows_told.kp T.b_rows_told .nil pass0 (pa_cons (pv 8) pa_nil)) (pa_cons (pv 2) (pa_cons (pv 3) pa_nil))))))))) (pss_one (ps_ret pe_bl)) pss_nil)
  (pss_cons (ps_set (i := 9) sc_law.nd rfl (Or.inl rfl) (pe_call (G__law_built T) (hr.mono (by decide)) rfl T.m__law_built T.F__law_built.kp T.b__law_built .nil pass0 (pa_cons (pv 2) (pa_cons (pv 3) pa_nil))))
  (pss_cons (ps_if (PW.pt (pw_or (pt_not (pt_val (pe_call (G__law_said T) (hr.mono (by decide)) rfl T.m__law_said T.F__law_said.kp T.b__law_said .nil pass0 (pa_cons (pe_cmpR (op_eqO T GM rfl rfl rfl rfl rfl (hr.mono (by omega))) (pv 8) (pv 9) (nomark _)) (pa_cons pe_bl pa_nil))))) (pw_or1 (pt_not (pt_val (pe_call (G__law_said T) (hr.mono (by decide)) rfl T.m__law_said T.F__law_said.kp T.b__law_said .nil pass0 (pa_cons (pe_cmpR (op_eqO T GM rfl rfl rfl rfl rfl (hr.mono (by omega))) (pv 9) (pv 8) (nomark _)) (pa_cons pe_bl pa_nil)))))))) (pss_one (ps_ret pe_bl)) pss_nil)
  (pss_cons (ps_if (pt_not (pt_val (pe_call (G__law_told T) (hr.mono (by decide)) rfl T.m__law_told T.F__law_told.kp T.b__law_told .nil pass0 (pa_cons (pe_call (G_rows_told T) (hr.mono (by decide)) rfl T.m_rows_told T.F_rows_told.kp T.b_rows_told .nil pass0 (pa_cons (pv 9) pa_nil)) (pa_cons (pv 2) (pa_cons (pv 3) pa_nil)))))) (pss_one (ps_ret pe_bl)) pss_nil)
  (pss_cons (ps_set (i := 10) sc_law.nd rfl (Or.inl rfl) (pe_call (G_clean_register T) (hr.mono (by decide)) rfl T.m_clean_register T.F_clean_register.kp T.b_clean_register .nil passN (pa_cons (pe_callTy call_tuple_of (by rfl) T.z_tuple (show bootBuiltins "tuple" = some (.type "tuple") by decide +kernel) (pa_cons (pv 2) pa_nil)) pa_nil)))
  (pss_cons (ps_if (PW.pt (pw_or (pt_not (pt_val (pe_call (G__law_is_register T) (hr.mono (by decide)) rfl T.m__law_is_register T.F__law_is_register.kp T.b__law_is_register .nil pass0 (pa_cons (pv 10) (pa_cons (pv 2) (pa_cons (pe_lc (own := [("look", 4)]) (g := gName 4) (tt := tYes) rfl sc_law.nd (pi_list (pv 2)) (blkOk_by (own := [("look", 4)]) (N := ["script", "pool", "looks", "words", "look", "handed", "word", "pairs", "told", "built", "clean", "other", "second", "same", "flip", "one"]) (sc := defScope s_law) (by decide +kernel)) (fun _ _ _ _ _ => (pg_name (i := 4) sc_law.nd rfl (Or.inl rfl))) (fun _ _ _ _ _ => pts_nil) (fun _ _ _ _ _ => pe_bl)) pa_nil)))))) (pw_or1 (pt_not (pt_val (pe_call (G__law_said T) (hr.mono (by decide)) rfl T.m__law_said T.F__law_said.kp T.b__law_said .nil pass0 (pa_cons (pe_cmpR (op_eqO T GM rfl rfl rfl rfl rfl (hr.mono (by omega))) (pv 10) (pv 8) (nomark _)) (pa_cons (pe_cmpR op_notIn_seq pe_bl (pv 3) (by with_unfolding_all rfl)) pa_nil)))))))) (pss_one (ps_ret pe_bl)) pss_nil)
  (pss_cons (ps_set (i := 11) sc_law.nd rfl (Or.inl rfl) (pe_call (G__law_other T) (hr.mono (by decide)) rfl T.m__law_other T.F__law_other.kp T.b__law_other .nil pass0 (pa_cons (pv 1) (pa_cons (pv 2) (pa_cons (pv 3) pa_nil)))))
  (pss_cons (ps_set (i := 12) sc_law.nd rfl (Or.inl rfl) (pe_call (G_register_of T) (hr.mono (by decide)) rfl T.m_register_of T.F_register_of.kp T.b_register_of .nil passN (pa_cons (pe_callTy call_tuple_of (by rfl) T.z_tuple (show bootBuiltins "tuple" = some (.type "tuple") by decide +kernel) (pa_cons (pe_ix ix_list (pv 11) pe_int (fun _ _ => rfl)) pa_nil)) (pa_cons (pe_callTy (call_listK (K := K) rfl) (by rfl) T.z_list (show bootBuiltins "list" = some (.type "list") by decide +kernel) (pa_cons (pe_ix ix_list (pv 11) pe_int (fun _ _ => rfl)) pa_nil)) pa_nil))))
  (pss_cons (ps_set (i := 13) sc_law.nd rfl (Or.inl rfl) (pe_and (pe_cmpR (op_eqD hr.units) (pe_ix ix_list (pv 11) pe_int (fun _ _ => rfl)) (pv 2) (nomark _)) (pe_one (pe_cmpR (op_eqD hr.units) (pe_ix ix_list (pv 11) pe_int (fun _ _ => rfl)) (pv 3) (nomark _)))))
  (pss_cons (ps_if (PW.pt (pw_or (pt_not (pt_val (pe_call (G__law_said T) (hr.mono (by decide)) rfl T.m__law_said T.F__law_said.kp T.b__law_said .nil pass0 (pa_cons (pe_cmpR (op_eqO T GM rfl rfl rfl rfl rfl (hr.mono (by omega))) (pv 8) (pv 12) (nomark _)) (pa_cons (pv 13) pa_nil))))) (pw_or1 (pt_not (pt_val (pe_call (G__law_said T) (hr.mono (by decide)) rfl T.m__law_said T.F__law_said.kp T.b__law_said .nil pass0 (pa_cons (pe_cmpR (op_eqO T GM rfl rfl rfl rfl rfl (hr.mono (by omega))) (pv 12) (pv 8) (nomark _)) (pa_cons (pv 13) pa_nil)))))))) (pss_one (ps_ret pe_bl)) pss_nil)
  (pss_cons (ps_if (pt_not (pt_val (pe_call (G__law_told T) (hr.mono (by decide)) rfl T.m__law_told T.F__law_told.kp T.b__law_told .nil pass0 (pa_cons (pe_call (G_rows_told T) (hr.mono (by decide)) rfl T.m_rows_told T.F_rows_told.kp T.b_rows_told .nil pass0 (pa_cons (pv 12) pa_nil)) (pa_cons (pe_ix ix_list (pv 11) pe_int (fun _ _ => rfl)) (pa_cons (pe_ix ix_list (pv 11) pe_int (fun _ _ => rfl)) pa_nil)))))) (pss_one (ps_ret pe_bl)) pss_nil)
  (pss_cons (ps_set (i := 14) sc_law.nd rfl (Or.inl rfl) (pe_make T.k_Mix (G_Mix_init T) (hr.mono (by decide)) rfl T.m_Mix T.b_Mix_init .nil passN (pa_cons (pe_make T.k_Mix (G_Mix_init T) (hr.mono (by decide)) rfl T.m_Mix T.b_Mix_init .nil passN (pa_cons (pe_makeN T.k_Zero (by rfl) T.m_Zero) (pa_cons pe_int (pa_cons pe_int (pa_cons pe_int pa_nil))))) (pa_cons pe_int (pa_cons pe_int (pa_cons pe_int pa_nil))))))
  (pss_cons (ps_for PassesOwn.never rfl (pi_list (pe_lst (pa_cons (pe_make T.k_Mix (G_Mix_init T) (hr.mono (by decide)) rfl T.m_Mix T.b_Mix_init .nil passN (pa_cons (pe_make T.k_Mix (G_Mix_init T) (hr.mono (by decide)) rfl T.m_Mix T.b_Mix_init .nil passN (pa_cons (pe_makeN T.k_Zero (by rfl) T.m_Zero) (pa_cons pe_int (pa_cons pe_int (pa_cons pe_int pa_nil))))) (pa_cons pe_int (pa_cons pe_int (pa_cons pe_int pa_nil))))) (pa_cons (pe_make T.k_Mix (G_Mix_init T) (hr.mono (by decide)) rfl T.m_Mix T.b_Mix_init .nil passN (pa_cons (pe_makeN T.k_Zero (by rfl) T.m_Zero) (pa_cons pe_int (pa_cons pe_int (pa_cons pe_int pa_nil))))) (pa_cons (pe_makeN T.k_Zero (by rfl) T.m_Zero) (pa_cons pe_int (pa_cons pe_str (pa_cons (pe_tup pa_nil) pa_nil)))))))) (pg_name (i := 15) sc_law.nd rfl (Or.inl rfl))
  (pss_one (ps_if (pt_not (pt_val (pe_call (G__law_said T) (hr.mono (by decide)) rfl T.m__law_said T.F__law_said.kp T.b__law_said .nil pass0 (pa_cons (pe_cmpR (op_eqO T GM rfl rfl rfl rfl rfl (hr.mono (by omega))) (pv 14) (pv 15) (nomark _)) (pa_cons pe_bl pa_nil))))) (pss_one (ps_ret pe_bl)) pss_nil)))
  (pss_cons (ps_if (PW.pt (pw_or (pt_not (pt_val (pe_call (G__law_said T) (hr.mono (by decide)) rfl T.m__law_said T.F__law_said.kp T.b__law_said .nil pass0 (pa_cons (pe_cmpR (op_eqO T GM rfl rfl rfl rfl rfl (hr.mono (by omega))) (pe_makeN T.k_Zero (by rfl) T.m_Zero) (pe_makeN T.k_Zero (by rfl) T.m_Zero) (nomark _)) (pa_cons pe_bl pa_nil))))) (pw_or1 (pt_not (pt_val (pe_call (G__law_said T) (hr.mono (by decide)) rfl T.m__law_said T.F__law_said.kp T.b__law_said .nil pass0 (pa_cons (pe_cmpR (op_eqO T GM rfl rfl rfl rfl rfl (hr.mono (by omega))) (pe_makeN T.k_Zero (by rfl) T.m_Zero) (pv 14) (nomark _)) (pa_cons pe_bl pa_nil)))))))) (pss_one (ps_ret pe_bl)) pss_nil)
  (pss_cons (ps_if (PW.pt (pw_or (pt_not (pt_val (pe_call (G__law_said T) (hr.mono (by decide)) rfl T.m__law_said T.F__law_said.kp T.b__law_said .nil pass0 (pa_cons (pe_cmpR (op_eqO T GM rfl rfl rfl rfl rfl (hr.mono (by omega))) (pe_makeN T.k_Zero (by rfl) T.m_Zero) pe_int (nomark _)) (pa_cons pe_bl pa_nil))))) (pw_or1 (pt_cmpR (op_neD hr.units) (pe_call (G_rows_told T) (hr.mono (by decide)) rfl T.m_rows_told T.F_rows_told.kp T.b_rows_told .nil pass0 (pa_cons (pe_makeN T.k_Zero (by rfl) T.m_Zero) pa_nil)) (pe_tup (pa_cons (pe_tup pa_nil) (pa_cons (pe_tup pa_nil) pa_nil))) (nomark _))))) (pss_one (ps_ret pe_bl)) pss_nil)
  (pss_one (ps_ret (pe_call (G__law_errors T) (hr.mono (by decide)) rfl T.m__law_errors T.F__law_errors.kp T.b__law_errors .nil pass0 (pa_cons (pv 1) (pa_cons (pv 2) (pa_cons (pv 3) pa_nil)))))))))))))))))))))))))))))), ?_⟩
    have hsz : (10000 : Nat) < sizeLine := by decide
    walk_at "rd"
    refine ⟨a, ns, rfl, ha, hl, fun l H1 S1 n_l hp1 => ?_⟩
    walk_at "rd"
    refine ⟨by show (7 : Nat) ≤ sizeLine; decide, fun p1 n_p1 => ?_⟩
    generalize hG : upd _ p1 _ = H2
    obtain ⟨S_H2, e_p1⟩ := eq_new hG n_p1
    clear hG
    walk_at "rd"
    have hp2 := hp1.same S_H2
    refine ⟨l, 2520, 7, rfl, by omega, hp2, fun i1 H3 a1 b1 o3 hp3 => ?_⟩
    obtain ⟨size, hsize, s0, s16⟩ : ∃ size : Int, atI [V.int 3, V.int 1, V.int 2, V.int 5, V.int 0, V.int 16, V.int 8] i1 = some (.int size) ∧ 0 ≤ size ∧ size ≤ 16 := by
      have hi : i1 = 0 ∨ i1 = 1 ∨ i1 = 2 ∨ i1 = 3 ∨ i1 = 4 ∨ i1 = 5 ∨ i1 = 6 := by omega
      rcases hi with rfl | rfl | rfl | rfl | rfl | rfl | rfl <;> exact ⟨_, rfl, by omega, by omega⟩
    refine r_ixL (.inl (.inl (o3 _ _ (hp1.ne n_p1) e_p1))) hsize ?_
    walk_at "rd"
    refine ⟨l, 2520, size, rfl, s0, s16, hp3, fun lk xs row H4 o4 n_lk hp4 e_lk hrow hlen hok => ?_⟩
    have nlk : lk ≠ l := hp3.ne n_lk
    have hlx := hrow.length
    have h16 : row.length ≤ 16 := by omega
    walk_at "rd"
    refine r_lcList (fun D i H5 => Off l H4 H5 ∧ PoolAt H5 l 2520 ∧ D ≠ l ∧ ∃ gs : List Bool, H5 D = some (.lst (gs.map V.bl)) ∧ gs.length = i) (.inl (.inl e_lk)) (fun D hD => ?_) (fun D hD i H5 hi p => .inl (.inl (p.1 _ _ nlk e_lk))) (fun D hD i x H5 hx p => ?_) (fun D hD H5 p => ?_)
    · exact ⟨.of_same (same_new hD), hp4.same (same_new hD), hp4.ne hD, [], upd_same, rfl⟩
    · obtain ⟨o5, hp5, nD, gs, eD, hgl⟩ := p
      have hi : i < xs.length := by
        by_cases h : i < xs.length
        · exact h
        · rw [List.getElem?_eq_none (by omega)] at hx; cases hx
      walk_at "rd"
      refine ⟨rfl, ?_⟩
      walk_at "rd"
      refine ⟨l, 2520, 3, rfl, by omega, hp5, fun d H6 d0 d1 o6 hp6 => ?_⟩
      walk_at "rd"
      have eD6 : H6 D = some (.lst (gs.map V.bl)) := o6 _ _ nD eD
      refine ⟨_, eD6, by rw [List.length_map]; omega, putN (o5.trans o6) hD, ?_, nD, gs ++ [decide (d < 2)], ?_, by rw [List.length_append, hgl]; rfl⟩
      · obtain ⟨ns, z1, z2⟩ := hp6
        exact ⟨ns, by rw [upd_ne nD.symm]; exact z1, z2⟩
      · rw [List.map_append]; exact upd_same
    obtain ⟨o5, hp5, nD, gs, eD, hgl⟩ := p
    walk_at "rd"
    obtain ⟨ns5, hn5, _⟩ := id hp5
    have hL5 : Lk K H5 l lk D row gs := ⟨hp5, ⟨⟨xs, .inl (.inl (wo_at nlk (o5 _ _ nlk e_lk))), (hrow.keep (o5.im hp4.choose_spec.1)).keep (wo_im hn5)⟩, .inl (.inl (wo_at nD eD)), by omega, by omega⟩⟩
    refine ⟨by show (0 : Nat) ≤ sizeLine; decide, fun hd n_hd => ?_⟩
    generalize hG : upd _ hd _ = H6
    obtain ⟨S_H6, e_hd⟩ := eq_new hG n_hd
    clear hG
    walk_at "rd"
    have nhl : hd ≠ l := hp5.ne n_hd
    refine r_forList (fun i σ H7 => Off l H5 H7 ∧ PoolAt H7 l 2520 ∧ ∃ (hs : List V) (es : List PyData) (o4 o6 : Option V), σ = [some (.ref a), some (.ref l), some (.ref lk), some (.ref D), o4, some (.ref hd), o6, none, none, none, none, none, none, none, none, none] ∧ H7 hd = some (.lst hs) ∧ DpAll K (wo hd (wo l H7)) hs es ∧ es.map boD = (gs.take i).map some ∧ hs.length = i)
      (S_H6.seq hL5.at.ws) ⟨.of_same S_H6, hp5.same S_H6, [], [], _, _, rfl, e_hd, .nil, rfl, rfl⟩ (fun i σ H7 _ p => (hL5.off p.1 p.2.1).at.ws) ?_ ?_
    · rintro i x σ H7 hx ⟨o7, hp7, hs, es, o4', o6', rfl, e7, D7, hes, hlh⟩
      obtain ⟨g, hg, rfl⟩ : ∃ g, gs[i]? = some g ∧ x = .bl g := by
        rw [List.getElem?_map] at hx
        cases hg : gs[i]? with
        | none => rw [hg] at hx; cases hx
        | some g => rw [hg] at hx; exact ⟨g, rfl, (Option.some.inj hx).symm⟩
      have hil : i < gs.length := by
        by_cases h : i < gs.length
        · exact h
        · rw [List.getElem?_eq_none (by omega)] at hg; cases hg
      have hes2 : ∀ e, boD e = some g → (es ++ [e]).map boD = (gs.take (i + 1)).map some := fun e he => by
        rw [List.take_add_one, hg, List.map_append, hes, List.map_append]
        show _ ++ [boD e] = _
        rw [he]; rfl
      walk_at "rd"
      refine r_ite (fun c => ?_) (fun c => ?_)
      · subst c
        walk_at "rd"
        refine ⟨ty_list (.inl (.inl e7)), ?_⟩
        walk_at "rd"
        refine ⟨by show (1 : Nat) ≤ sizeLine; decide, fun p8 n_p8 => ?_⟩
        generalize hG : upd _ p8 _ = H8
        obtain ⟨S_H8, e_p8⟩ := eq_new hG n_p8
        clear hG
        walk_at "rd"
        refine ⟨by show (4 : Nat) ≤ sizeLine; decide, fun p9 n_p9 => ?_⟩
        generalize hG : upd _ p9 _ = H9
        obtain ⟨S_H9, e_p9⟩ := eq_new hG n_p9
        clear hG
        walk_at "rd"
        have hp9 : PoolAt H9 l 2520 := (hp7.same S_H8).same S_H9
        refine ⟨l, 2520, 4, rfl, by omega, hp9, fun d H10 d0 d1 o10 hp10 => ?_⟩
        have f8 : wo hd (wo l H10) p8 = some (.lst [.int 0]) := wo_at (ne_of_none e7 n_p8).symm (o10.wo _ _ (wo_at (hp7.ne n_p8) (S_H9 _ _ e_p8)))
        obtain ⟨hv, e, hhv, De, hbe⟩ : ∃ hv e, atI [V.bl true, V.int 1, V.str (Str.ofString "good"), V.ref p8] d = some hv ∧ Dp K (wo hd (wo l H10)) hv e ∧ boD e = some true := by
          have hi : d = 0 ∨ d = 1 ∨ d = 2 ∨ d = 3 := by omega
          rcases hi with rfl | rfl | rfl | rfl
          · exact ⟨_, .bool true, rfl, .bl _, rfl⟩
          · exact ⟨_, .int 1, rfl, .int _, rfl⟩
          · exact ⟨_, .str _, rfl, .str _, by decide +kernel⟩
          · exact ⟨_, .list [.int 0], rfl, .lst (.inl (.inl f8)) (.cons (.int _) .nil), rfl⟩
        refine r_ixL (.inl (.inl (o10 _ _ ((hp7.same S_H8).ne n_p9) e_p9))) hhv ?_
        walk_at "rd"
        have e10 : H10 hd = some (.lst hs) := o10 _ _ nhl (S_H9 _ _ (S_H8 _ _ e7))
        refine r_append (xs := hs) e10 (by omega) ?_
        refine ⟨putN ((o7.trans (.of_same (S_H8.trans S_H9))).trans o10) n_hd, ?_, hs ++ [hv], es ++ [e], _, _, rfl, upd_same, ?_, hes2 e hbe, by rw [List.length_append, hlh]; rfl⟩
        · obtain ⟨ns, z1, z2⟩ := hp10
          exact ⟨ns, by rw [upd_ne nhl.symm]; exact z1, z2⟩
        · exact (((D7.same (swo (swo (S_H8.trans S_H9)))).same (swo o10.wo)).append (.cons De .nil)).same put2
      · subst c
        walk_at "rd"
        refine ⟨ty_list (.inl (.inl e7)), ?_⟩
        walk_at "rd"
        refine ⟨by show (0 : Nat) ≤ sizeLine; decide, fun p8 n_p8 => ?_⟩
        generalize hG : upd _ p8 _ = H8
        obtain ⟨S_H8, e_p8⟩ := eq_new hG n_p8
        clear hG
        walk_at "rd"
        refine ⟨by show (4 : Nat) ≤ sizeLine; decide, fun p9 n_p9 => ?_⟩
        generalize hG : upd _ p9 _ = H9
        obtain ⟨S_H9, e_p9⟩ := eq_new hG n_p9
        clear hG
        walk_at "rd"
        have hp9 : PoolAt H9 l 2520 := (hp7.same S_H8).same S_H9
        refine ⟨l, 2520, 4, rfl, by omega, hp9, fun d H10 d0 d1 o10 hp10 => ?_⟩
        have f8 : wo hd (wo l H10) p8 = some (.lst []) := wo_at (ne_of_none e7 n_p8).symm (o10.wo _ _ (wo_at (hp7.ne n_p8) (S_H9 _ _ e_p8)))
        obtain ⟨hv, e, hhv, De, hbe⟩ : ∃ hv e, atI [V.bl false, V.int 0, V.str (Str.ofString ""), V.ref p8] d = some hv ∧ Dp K (wo hd (wo l H10)) hv e ∧ boD e = some false := by
          have hi : d = 0 ∨ d = 1 ∨ d = 2 ∨ d = 3 := by omega
          rcases hi with rfl | rfl | rfl | rfl
          · exact ⟨_, .bool false, rfl, .bl _, rfl⟩
          · exact ⟨_, .int 0, rfl, .int _, rfl⟩
          · exact ⟨_, .str _, rfl, .str _, by decide +kernel⟩
          · exact ⟨_, .list [], rfl, .lst (.inl (.inl f8)) .nil, rfl⟩
        refine r_ixL (.inl (.inl (o10 _ _ ((hp7.same S_H8).ne n_p9) e_p9))) hhv ?_
        walk_at "rd"
        have e10 : H10 hd = some (.lst hs) := o10 _ _ nhl (S_H9 _ _ (S_H8 _ _ e7))
        refine r_append (xs := hs) e10 (by omega) ?_
        refine ⟨putN ((o7.trans (.of_same (S_H8.trans S_H9))).trans o10) n_hd, ?_, hs ++ [hv], es ++ [e], _, _, rfl, upd_same, ?_, hes2 e hbe, by rw [List.length_append, hlh]; rfl⟩
        · obtain ⟨ns, z1, z2⟩ := hp10
          exact ⟨ns, by rw [upd_ne nhl.symm]; exact z1, z2⟩
        · exact (((D7.same (swo (swo (S_H8.trans S_H9)))).same (swo o10.wo)).append (.cons De .nil)).same put2
    rintro σ H7 ⟨o7, hp7, hs, es, o4', o6', rfl, e7, D7, hes, hlh⟩
    rw [List.length_map, List.take_length] at hes
    have hL7 : Lk K H7 l lk D row gs := hL5.off o7 hp7
    have D7 : DpAll K H7 hs es := D7.same (wo_le.trans wo_le)
    clear o7 hL5
    walk_at "rd"
    obtain ⟨⟨xs7, hx7, hrow7⟩, hws7, hlen7, hsm7⟩ := id hL7.at
    have hlx7 := hrow7.length
    refine r_lcList (fun D i H8 => Same H7 H8 ∧ ∃ acc, H8 D = some (.lst acc) ∧ PairsAt H7 H8 D acc (row.take i)) hx7 (fun D2 hD2 => ⟨same_new hD2, [], upd_same, .nil⟩) (fun D2 hD2 i H8 hi p => p.1.seq hx7) (fun D2 hD2 i x H8 hx p => ?_) (fun D2 hD2 H8 p => ?_)
    · obtain ⟨S8, acc, eD2, hP⟩ := p
      obtain ⟨m, t, p, hmt, rfl, hpp⟩ := hrow7.get hx
      walk_at "rd"
      refine ⟨rfl, ?_⟩
      walk_at "rd"
      refine r_listT (.inl (.inl (S8 _ _ hpp))) ?_
      intro q1 n_q1
      generalize hG : upd _ q1 _ = H9
      obtain ⟨S_H9, e_q1⟩ := eq_new hG n_q1
      clear hG
      walk_at "rd"
      have hqD : q1 ≠ D2 := (ne_of_none eD2 n_q1).symm
      refine ⟨acc, S_H9 _ _ eD2, by rw [hP.length, List.length_take]; omega, (S8.trans S_H9).put hD2, _, upd_same, ?_⟩
      rw [List.take_add_one, hmt]
      exact (hP.keep (fun a o n e => by rw [upd_ne n]; exact S_H9 _ _ e)).append (.cons ⟨q1, rfl, by rw [upd_ne hqD]; exact e_q1, S8.free n_q1, hqD⟩ .nil)
    obtain ⟨S8, acc, eD2, hP⟩ := p
    rw [hlx7, List.take_length] at hP
    walk_at "rd"
    refine r_tupL (.inl (.inl (S8 _ _ e7))) ?_
    intro th n_th
    generalize hG : upd _ th _ = H9
    obtain ⟨S_H9, e_th⟩ := eq_new hG n_th
    clear hG
    walk_at "rd"
    have hmx : mixedP (.list (row.map listD)) = .ok row := mixedP_lists h16 hok
    have hel : es.length = row.length := by have := congrArg List.length hes; simp at this; omega
    have hwp : wordsP (.tuple es) row.length = some es := by
      unfold wordsP
      show (if es.length = row.length then some es else none) = some es
      exact if_pos hel
    refine ⟨_, .list (row.map listD), _, .tuple es, rfl, .lst (.inl (.inl (S_H9 _ _ eD2))) (hP.dp.same S_H9), .tup (.inl (.inl e_th)) (D7.same (S8.trans S_H9)), fun n hn => ?_, fun row2 hr hw => ?_, fun row2 es2 hr hw => ?_⟩
    · rw [hmx] at hn; cases hn
    · rw [hmx] at hr; cases hr; rw [hwp] at hw; cases hw
    rw [hmx] at hr; cases hr; rw [hwp] at hw; cases hw
    refine ⟨gs, hes, fun H10 tv S10 ht => ?_⟩
    have S710 : Same H7 H10 := (S8.trans S_H9).trans S10
    walk_at "rd"
    refine r_lcList (fun D i H8 => Same H10 H8 ∧ ∃ acc, H8 D = some (.lst acc) ∧ PairsAt H10 H8 D acc (row.take i)) (S710.seq hx7) (fun D3 hD3 => ⟨same_new hD3, [], upd_same, .nil⟩) (fun D3 hD3 i H8 hi p => p.1.seq (S710.seq hx7)) (fun D3 hD3 i x H8 hx p => ?_) (fun D3 hD3 H11 p => ?_)
    · obtain ⟨S8, acc, eD3, hP⟩ := p
      obtain ⟨m, t, p, hmt, rfl, hpp⟩ := (hrow7.same S710).get hx
      walk_at "rd"
      refine ⟨rfl, ?_⟩
      walk_at "rd"
      refine r_listT (.inl (.inl (S8 _ _ hpp))) ?_
      intro q1 n_q1
      generalize hG : upd _ q1 _ = H9
      obtain ⟨S_H9, e_q1⟩ := eq_new hG n_q1
      clear hG
      walk_at "rd"
      have hqD : q1 ≠ D3 := (ne_of_none eD3 n_q1).symm
      refine ⟨acc, S_H9 _ _ eD3, by rw [hP.length, List.length_take]; omega, (S8.trans S_H9).put hD3, _, upd_same, ?_⟩
      rw [List.take_add_one, hmt]
      exact (hP.keep (fun a o n e => by rw [upd_ne n]; exact S_H9 _ _ e)).append (.cons ⟨q1, rfl, by rw [upd_ne hqD]; exact e_q1, S8.free n_q1, hqD⟩ .nil)
    obtain ⟨S11, acc3, eD3, hP3⟩ := p
    rw [hlx7, List.take_length] at hP3
    have hP11 : DpAll K H11 acc (row.map listD) := hP.dp.same ((S_H9.trans S10).trans S11)
    have eD2' : H11 D2 = some (.lst acc) := S11 _ _ (S10 _ _ (S_H9 _ _ eD2))
    refine r_neD (.lst (.inl (.inl eD2')) hP11) (.lst (.inl (.inl eD3)) hP3.dp) (shaped_lists row) (shaped_lists row) ?_
    rw [eqv_shaped (shaped_lists row)]
    walk_at "rd"
    have hL11 := (hL7.same S710).same S11
    have ht11 := ht.same S11
    refine ⟨tv, lk, D, row, gs, rfl, hL11.at, ht11, ?_⟩
    walk_at "rs"
    refine r_cut (fun σ' H' => σ' = [some (.ref a), some (.ref l), some (.ref lk), some (.ref D), o4', some (.ref hd), o6', some (.ref D2), some tv, none, none, none, none, none, none, none] ∧ Lk K H' l lk D row gs ∧ RegAt T.C_Zero T.C_Mix H' tv (regOf row gs)) (fun N' hN => ?_) ?_
    · walk_at "rd"
      refine r_lenL (.inl (.inl eD2')) ?_
      walk_at "rd"
      refine r_ite (fun c => ?_) (fun c => ?_)
      · walk_at "rd"
        match row, acc, hP, c with
        | [], _, .nil, c => exact absurd c (by decide)
        | (m, t) :: row', _ :: acc', .cons ⟨q0, rfl, hq0, nq0, nqD⟩ _, _ =>
        have eD2'' : H11 D2 = some (.lst (.ref q0 :: acc')) := eD2'
        have eq0 : H11 q0 = some (.lst [.int m, .int t]) := S11 _ _ (S10 _ _ (S_H9 _ _ hq0))
        refine r_ixL (i := ((0 : Nat) : Int)) (v := .ref q0) (.inl (.inl eD2'')) (atI_nat rfl) ?_
        walk_at "rd"
        refine ⟨q0, _, 0, 0, rfl, rfl, eq0, rfl, ?_⟩
        have fr1 : Fr [q0, D2] H11 (upd H11 q0 (.lst ([V.int m, V.int t].set 0 (.int 9)))) := Fr.refl.put eq0 (by simp)
        have eD3' : upd H11 q0 (.lst ([V.int m, V.int t].set 0 (.int 9))) D2 = some (.lst (.ref q0 :: acc')) := by rw [upd_ne nqD.symm]; exact eD2''
        walk_at "rd"
        refine ⟨ty_list (.inl (.inl eD3')), ?_⟩
        walk_at "rd"
        have hl2 := hP11.length
        refine r_append (xs := .ref q0 :: acc') eD3' (by simp at hl2 h16 ⊢; omega) ?_
        have fr2 := fr1.put (ys := .ref q0 :: acc' ++ [.non]) eD3' (by simp)
        have S711 : Same H7 H11 := S710.trans S11
        refine hN _ _ ⟨rfl, hL7.same ((S711.put nq0).put hD2), ht11.keep fr2.im⟩
      · walk_at "rd"
        exact hN _ _ ⟨rfl, hL11, ht11⟩
    rintro σ' H12 ⟨rfl, hL12, ht12⟩
    walk_at "rd"
    refine ⟨tv, lk, D, row, gs, rfl, hL12.at, ht12, ?_⟩
    walk_at "rd"
    have hreg : (regOf row gs).length ≤ 17 := by rw [regOf_length hlen7]; omega
    refine ⟨tv, regOf row gs, rfl, ht12, by omega, fun H13 u S13 hu => ?_⟩
    rw [rowsOf_regOf hlen7, wordsOf_regOf hlen7] at hu
    walk_at "rd"
    have hL13 := hL12.same S13
    refine ⟨u, lk, D, row, gs, rfl, hL13.at, hu, ?_⟩
    walk_at "rd"
    refine ⟨lk, D, row, gs, rfl, hL13.at, hok, fun bv H14 S14 hb => ?_⟩
    have ht14 := ht12.same (S13.trans S14)
    walk_at "rd"
    refine r_eqO T ht14 hreg hb ?_
    rw [decide_eq_true (rfl : regOf row gs = regOf row gs)]
    walk_at "rd"
    refine ⟨true, true, rfl, ?_⟩
    walk_at "rd"
    refine r_eqO T hb hreg ht14 ?_
    rw [decide_eq_true (rfl : regOf row gs = regOf row gs)]
    walk_at "rd"
    refine ⟨true, true, rfl, ?_⟩
    walk_at "rd"
    refine ⟨bv, regOf row gs, rfl, hb, by omega, fun H15 u2 S15 hu2 => ?_⟩
    rw [rowsOf_regOf hlen7, wordsOf_regOf hlen7] at hu2
    walk_at "rd"
    have hL15 := (hL13.same S14).same S15
    have ht15 := ht14.same S15
    refine ⟨u2, lk, D, row, gs, rfl, hL15.at, hu2, ?_⟩
    walk_at "rd"
    obtain ⟨⟨xs15, hx15, hrow15⟩, hws15, _, _⟩ := id hL15.at
    have hlx15 := hrow15.length
    refine r_tupL hx15 ?_
    intro ct n_ct
    generalize hG : upd _ ct _ = H16
    obtain ⟨S_H16, e_ct⟩ := eq_new hG n_ct
    clear hG
    walk_at "rd"
    have hmt : mixedP (.tuple (row.map pairD)) = .ok row := mixedP_of rfl h16 hok
    refine ⟨_, .tuple (row.map pairD), rfl, .tup (.inl (.inl e_ct)) (hrow15.dp.same S_H16), fun n hn => ?_, fun row2 hr H17 cv S17 hc => ?_⟩
    · rw [hmt] at hn; cases hn
    rw [hmt] at hr; cases hr
    walk_at "rd"
    have S1517 : Same H15 H17 := S_H16.trans S17
    refine r_lcList (fun D i H8 => Same H17 H8 ∧ H8 D = some (.lst ((List.replicate i true).map V.bl))) (S1517.seq hx15) (fun D2 hD2 => ⟨same_new hD2, upd_same⟩) (fun D2 hD2 i H8 hi p => p.1.seq (S1517.seq hx15)) (fun D2 hD2 i x H8 hx p => ?_) (fun tr htr H18 p => ?_)
    · obtain ⟨S8, eD2⟩ := p
      have hi : i < xs15.length := by
        by_cases h : i < xs15.length
        · exact h
        · rw [List.getElem?_eq_none (by omega)] at hx; cases hx
      walk_at "rd"
      refine ⟨rfl, ?_⟩
      walk_at "rd"
      refine ⟨_, eD2, by rw [List.length_map, List.length_replicate]; omega, S8.put hD2, ?_⟩
      rw [List.replicate_succ', List.map_append]; exact upd_same
    obtain ⟨S18, etr⟩ := p
    rw [hlx15] at etr
    have hL18 := hL15.same (S1517.trans S18)
    have ht18 := ht15.same (S1517.trans S18)
    have hc18 := hc.same S18
    refine ⟨cv, lk, tr, row, List.replicate row.length true, rfl, ⟨hL18.at.ex, .inl (.inl etr), by simp, hL18.at.small⟩, hc18, ?_⟩
    walk_at "rd"
    have hll : row.length = (List.replicate row.length true).length := by simp
    refine r_eqO T hc18 (by rw [regOf_length hll]; omega) ht18 ?_
    walk_at "rd"
    refine ⟨D, gs.map V.bl, rfl, .inl hL18.at.ws, rfl, by simp [flatV], ?_⟩
    rw [regOf_inj hll hlen7]
    walk_at "rd"
    refine ⟨decide (row = row ∧ List.replicate row.length true = gs), !inV (.bl false) (gs.map V.bl), rfl, ?_⟩
    rw [show decide (decide (row = row ∧ List.replicate row.length true = gs) = !inV (.bl false) (gs.map V.bl)) = true by
      rw [notin_words, hlen7]; simp]
    walk_at "rd"
    refine ⟨l, lk, D, 2520, row, gs, rfl, hL18.pool, hL18.lw, hok, h16, fun H19 p a' b' xs' row' gs' o19 hp19 ep ea hrow' eb hll' h16' hok' np na nb => ?_⟩
    have hL19 : Lk K H19 l lk D row gs := hL18.off o19 hp19
    have ht19 := ht18.keep (o19.im hL18.pool.choose_spec.1)
    walk_at "rd"
    refine r_ixL (i := ((0 : Nat) : Int)) (.inl (.inl ep)) (atI_nat rfl) ?_
    walk_at "rd"
    refine r_tupL (.inl (.inl ea)) ?_
    intro t2 n_t2
    generalize hG : upd _ t2 _ = H20
    obtain ⟨S_H20, e_t2⟩ := eq_new hG n_t2
    clear hG
    walk_at "rd"
    refine r_ixL (i := ((1 : Nat) : Int)) (.inl (.inl (S_H20 _ _ ep))) (atI_nat rfl) ?_
    walk_at "rd"
    refine r_listL (.inl (.inl (S_H20 _ _ eb))) ?_
    intro w2 n_w2
    generalize hG : upd _ w2 _ = H21
    obtain ⟨S_H21, e_w2⟩ := eq_new hG n_w2
    clear hG
    walk_at "rd"
    have hm2 : mixedP (.tuple (row'.map pairD)) = .ok row' := mixedP_of rfl h16' hok'
    have hw2 : wordsP (.list (gs'.map PyData.bool)) row'.length = some (gs'.map PyData.bool) := by
      unfold wordsP
      show (if (gs'.map PyData.bool).length = row'.length then some _ else none) = _
      exact if_pos (by rw [List.length_map]; exact hll'.symm)
    refine ⟨_, .tuple (row'.map pairD), _, .list (gs'.map PyData.bool), rfl, .tup (.inl (.inl (S_H21 _ _ e_t2))) (hrow'.same (S_H20.trans S_H21)).dp, .lst (.inl (.inl e_w2)) (dp_bools _), fun n hn => ?_, fun row2 hr hw => ?_, fun row2 es2 hr hw => ?_⟩
    · rw [hm2] at hn; cases hn
    · rw [hm2] at hr; cases hr; rw [hw2] at hw; cases hw
    rw [hm2] at hr; cases hr; rw [hw2] at hw; cases hw
    refine ⟨gs', by rw [List.map_map]; rfl, fun H22 sv S22 hs => ?_⟩
    have S1922 : Same H19 H22 := (S_H20.trans S_H21).trans S22
    have hL22 := hL19.same S1922
    have ht22 := ht19.same S1922
    have ep22 := S1922 _ _ ep
    obtain ⟨⟨xs22, hx22, hrow22⟩, hws22, _, _⟩ := id hL22.at
    walk_at "rd"
    refine r_ixL (i := ((0 : Nat) : Int)) (.inl (.inl ep22)) (atI_nat rfl) ?_
    walk_at "rd"
    refine r_eqD (.lst (.inl (.inl (S1922 _ _ ea))) (hrow'.same S1922).dp) (.lst hx22 hrow22.dp) (shaped_row row') (shaped_row row) ?_
    walk_at "rd"
    rw [show PyData.eqv (.list (row'.map pairD)) (.list (row.map pairD)) = decide (row' = row) by rw [PyData.eqv]; exact eqv_rows _ _]
    refine r_ifV (fun x H' => x = .bl (decide (row' = row ∧ gs' = gs)) ∧ H' = H22) (fun c Q' hQ' => ?_) (fun c => ⟨?_, rfl⟩) ?_
    · walk_at "rd"
      refine r_ixL (i := ((1 : Nat) : Int)) (.inl (.inl ep22)) (atI_nat rfl) ?_
      walk_at "rd"
      refine r_eqD (.lst (.inl (.inl (S1922 _ _ eb))) (dp_bools _)) (.lst hws22 (dp_bools _)) (shaped_bools gs') (shaped_bools gs) ?_
      refine hQ' _ _ ⟨?_, rfl⟩
      rw [show PyData.eqv (.list (gs'.map PyData.bool)) (.list (gs.map PyData.bool)) = decide (gs' = gs) by rw [PyData.eqv]; exact eqv_bools _ _]
      have c' : row' = row := of_decide_eq_true c
      simp [c']
    · have c' : ¬ row' = row := of_decide_eq_false c
      simp [c']
    rintro x H' ⟨rfl, rfl⟩
    walk_at "rd"
    have hreg' : (regOf row' gs').length ≤ 17 := by rw [regOf_length hll']; omega
    have eq1 : decide (decide (regOf row gs = regOf row' gs') = decide (row' = row ∧ gs' = gs)) = true := by
      rw [regOf_inj hlen7 hll', decide_eq_true_eq]
      exact decide_eq_decide.mpr ⟨fun h => ⟨h.1.symm, h.2.symm⟩, fun h => ⟨h.1.symm, h.2.symm⟩⟩
    have eq2 : decide (decide (regOf row' gs' = regOf row gs) = decide (row' = row ∧ gs' = gs)) = true := by
      rw [regOf_inj hll' hlen7, decide_eq_true_eq]
    refine r_eqO T ht22 hreg hs ?_
    walk_at "rd"
    refine ⟨_, _, rfl, ?_⟩
    rw [eq1]
    walk_at "rd"
    refine r_eqO T hs hreg' ht22 ?_
    walk_at "rd"
    refine ⟨_, _, rfl, ?_⟩
    rw [eq2]
    walk_at "rd"
    refine ⟨sv, regOf row' gs', rfl, hs, by omega, fun H23 u3 S23 hu3 => ?_⟩
    rw [rowsOf_regOf hll', wordsOf_regOf hll'] at hu3
    walk_at "rd"
    refine r_ixL (i := ((0 : Nat) : Int)) (.inl (.inl (S23 _ _ ep22))) (atI_nat rfl) ?_
    walk_at "rd"
    refine r_ixL (i := ((1 : Nat) : Int)) (.inl (.inl (S23 _ _ ep22))) (atI_nat rfl) ?_
    walk_at "rd"
    refine ⟨u3, a', b', row', gs', rfl, ⟨⟨xs', .inl (.inl (S23 _ _ (S1922 _ _ ea))), hrow'.same (S1922.trans S23)⟩, .inl (.inl (S23 _ _ (S1922 _ _ eb))), hll', by omega⟩, hu3, ?_⟩
    walk_at "rd"
    have hL23 := hL22.same S23
    have ok1 : ∀ n : Int, 0 ≤ n → n < 8 → okNum (.int n) 7 = true := fun n => okNum7
    refine r_zero (M := T.C_Mix) fun z1 H24 S24 hz1 => ?_
    walk_at "rd"
    refine mk_mix T (m := 1) (t := 2) (dg := .int 1) (g := true) hz1 (by decide) (by decide) (fun _ => .int 1) rfl fun z2 H25 S25 hz2 => ?_
    walk_at "rd"
    refine mk_mix T (m := 3) (t := 4) (dg := .int 0) (g := false) hz2 (by decide) (by decide) (fun _ => .int 0) rfl fun fl H26 S26 hfl => ?_
    walk_at "rd"
    refine r_zero (M := T.C_Mix) fun z3 H27 S27 hz3 => ?_
    walk_at "rd"
    refine mk_mix T (m := 1) (t := 2) (dg := .int 0) (g := false) hz3 (by decide) (by decide) (fun _ => .int 0) rfl fun z4 H28 S28 hz4 => ?_
    walk_at "rd"
    refine mk_mix T (m := 3) (t := 4) (dg := .int 0) (g := false) hz4 (by decide) (by decide) (fun _ => .int 0) rfl fun x1 H29 S29 hx1 => ?_
    walk_at "rd"
    refine r_zero (M := T.C_Mix) fun z5 H30 S30 hz5 => ?_
    walk_at "rd"
    refine mk_mix T (m := 3) (t := 4) (dg := .int 0) (g := false) hz5 (by decide) (by decide) (fun _ => .int 0) rfl fun x2 H31 S31 hx2 => ?_
    walk_at "rd"
    refine r_zero (M := T.C_Mix) fun x3 H32 S32 hx3 => ?_
    walk_at "rd"
    refine ⟨by show (0 : Nat) ≤ sizeLine; decide, fun p33 n_p33 => ?_⟩
    generalize hG : upd _ p33 _ = H33
    obtain ⟨S_H33, e_p33⟩ := eq_new hG n_p33
    clear hG
    walk_at "rd"
    refine ⟨by show (6 : Nat) ≤ sizeLine; decide, fun p34 n_p34 => ?_⟩
    generalize hG : upd _ p34 _ = H34
    obtain ⟨S_H34, e_p34⟩ := eq_new hG n_p34
    clear hG
    walk_at "rd"
    have S2634 : Same H26 H34 := ((((((S27.trans S28).trans S29).trans S30).trans S31).trans S32).trans S_H33).trans S_H34
    have hfl34 := hfl.same S2634
    have hx1' := hx1.same (((((S30.trans S31).trans S32).trans S_H33).trans S_H34))
    have hx2' := hx2.same ((S32.trans S_H33).trans S_H34)
    have hx3' := hx3.same (S_H33.trans S_H34)
    have hL34 := hL23.same ((((S24.trans S25).trans S26)).trans S2634)
    have e33 := S_H34 _ _ e_p33
    refine r_forList (fun i σ H1 => Same H34 H1 ∧ ∃ o15, σ = [some (.ref a), some (.ref l), some (.ref lk), some (.ref D), o4', some (.ref hd), o6', some (.ref D2), some tv, some bv, some cv, some (.ref p), some sv, some (.bl (decide (row' = row ∧ gs' = gs))), some (.ref fl), o15])
      (.inl (.inl e_p34)) ⟨Same.refl _, _, rfl⟩ (fun i σ H1 _ p => .inl (.inl (p.1 _ _ e_p34))) ?_ ?_
    · rintro i x σ H35 hx ⟨S35, o15, rfl⟩
      have hf := hfl34.same S35
      walk_at "rd"
      have fin : ∀ Q : VK, Q (.bl false) H35 → rEqO T 17 (.ref fl) x H35 Q := fun Q hq => by
        match i, hx with
        | 0, hx => cases hx; exact r_eqO T hf (by decide) (hx1'.same S35) hq
        | 1, hx => cases hx; exact r_eqO T hf (by decide) (hx2'.same S35) hq
        | 2, hx => cases hx; exact r_eqO T hf (by decide) (hx3'.same S35) hq
        | 3, hx => cases hx; exact r_eqM T hf (by decide) (by simp) (.int 0) True.intro hq
        | 4, hx => cases hx; exact r_eqM T hf (by decide) (by simp) (.str _) True.intro hq
        | 5, hx => cases hx; exact r_eqM T hf (by decide) (by simp) (.tup (.inl (.inl (S35 _ _ e33))) .nil) True.intro hq
      refine fin _ ?_
      walk_at "rd"
      refine ⟨false, false, rfl, ?_⟩
      walk_at "rd"
      exact ⟨S35, _, rfl⟩
    rintro σ H35 ⟨S35, o15, rfl⟩
    have hf := hfl34.same S35
    have hL35 := hL34.same S35
    walk_at "rd"
    refine r_zero (M := T.C_Mix) fun y1 H36 S36 hy1 => ?_
    walk_at "rd"
    refine r_zero (M := T.C_Mix) fun y2 H37 S37 hy2 => ?_
    refine r_eqO T (hy1.same S37) (by decide) hy2 ?_
    walk_at "rd"
    refine ⟨true, true, rfl, ?_⟩
    walk_at "rd"
    refine r_zero (M := T.C_Mix) fun y3 H38 S38 hy3 => ?_
    walk_at "rd"
    refine r_eqO T hy3 (by decide) (((hf.same S36).same S37).same S38) ?_
    walk_at "rd"
    refine ⟨false, false, rfl, ?_⟩
    walk_at "rd"
    refine r_zero (M := T.C_Mix) fun y4 H39 S39 hy4 => ?_
    walk_at "rd"
    refine r_eqZ T hy4 ?_
    walk_at "rd"
    refine ⟨false, false, rfl, ?_⟩
    walk_at "rd"
    refine r_zero (M := T.C_Mix) fun y5 H40 S40 hy5 => ?_
    walk_at "rd"
    refine ⟨_, [], rfl, hy5, by decide, fun H41 u4 S41 hu4 => ?_⟩
    walk_at "rd"
    refine ⟨by show (0 : Nat) ≤ sizeLine; decide, fun p42 n_p42 => ?_⟩
    generalize hG : upd _ p42 _ = H42
    obtain ⟨S_H42, e_p42⟩ := eq_new hG n_p42
    clear hG
    walk_at "rd"
    refine ⟨by show (0 : Nat) ≤ sizeLine; decide, fun p43 n_p43 => ?_⟩
    generalize hG : upd _ p43 _ = H43
    obtain ⟨S_H43, e_p43⟩ := eq_new hG n_p43
    clear hG
    walk_at "rd"
    refine ⟨by show (2 : Nat) ≤ sizeLine; decide, fun p44 n_p44 => ?_⟩
    generalize hG : upd _ p44 _ = H44
    obtain ⟨S_H44, e_p44⟩ := eq_new hG n_p44
    clear hG
    walk_at "rd"
    obtain ⟨ua, ub, uc, ups, rfl, h1, h2, h3, h4⟩ := hu4
    cases h3
    have S4144 : Same H41 H44 := (S_H42.trans S_H43).trans S_H44
    have sh : SeqAt.shaped (.tuple [.tuple [], .tuple []]) = true := by decide +kernel
    refine r_neD (d := .tuple [.tuple [], .tuple []]) (e := .tuple [.tuple [], .tuple []]) (.tup (.inl (.inl (S4144 _ _ h1))) (.cons (.tup (.inl (.inl (S4144 _ _ h2))) .nil) (.cons (.tup (.inl (.inl (S4144 _ _ h4))) .nil) .nil)))
      (.tup (.inl (.inl e_p44)) (.cons (.tup (.inl (.inl ((S_H43.trans S_H44) _ _ e_p42))) .nil) (.cons (.tup (.inl (.inl (S_H44 _ _ e_p43))) .nil) .nil))) sh sh ?_
    rw [eqv_shaped sh]
    walk_at "rd"
    have hL44 := hL35.same ((((((S36.trans S37).trans S38).trans S39).trans S40).trans S41).trans S4144)
    exact ⟨l, lk, D, 2520, row, gs, rfl, hL44.pool, hL44.lw, hok, h16, q⟩
end
end R82
open PySem L2
theorem R82.ok_law {P : Program} {w : World} {K : PySem.W.Frag} {mg : Str → Option Value} {base : Heap} (T : R82.Top P K mg) : FnOk P w K mg base CX0 40 T.a_law T.d_law ["script"] (R82.spLaw K) := R82.G_law T
theorem R82.start {P : Program} {w : World} {K : PySem.W.Frag} {mg : Str → Option Value} {fa : Addr} (T : R82.Top P K mg) (hfa : mg "law" = some (.ref fa)) :
    ∃ fd : FuncData, (∀ (s : Shared) (v : Value), BindsTo s fd ⟨[v], []⟩ [("script", v)]) ∧ ∀ base : Heap, K.In base → base.Ns mainGlobals mg → FnOk P w K mg base CX0 40 fa fd ["script"] (R82.spLaw K) := by
  have e := hfa.symm.trans T.m_law
  cases e
  obtain ⟨oc, od, kV, doc, pm, an, cdv, ct, osl, hd, lk, hcd⟩ := T.F_law.ex
  refine ⟨T.d_law, fun s v => ?_, fun base _ _ => R82.ok_law T⟩
  rw [hd]
  exact .of_eq rfl
open PySem PySem.W PyProof.Rows
set_option maxRecDepth 100000 in
set_option maxHeartbeats 0 in
theorem PySem.Challenge.cw_deeplooks_k82_registers_holds : PySem.Challenge.rw_deeplooks_k82_registers.Holds := by
  w_on; o_law; k_head; (case hw => w_witness2)
  k_fill
  refine L2.walk_of (l := PySem.Challenge.rw_deeplooks_k82_registers) (n := 63) (k := 40) (x := "script") (CX := fun _ => L2.CX0) (sp := fun w => R82.spLaw _) rfl (by decide) rfl ⟨rfl, by decide, by decide⟩ (fun w h Y => PySem.W.kIn_of Y) ?F (fun _ _ a ns hl _ hS => ⟨a, ns, rfl, hS, hl, fun _ => rfl⟩) (fun _ _ _ _ _ h => h)
  case F =>
    intro w mg fa h KX G hmg
    refine' R82.start (R82.mkTop KX G (by decide +kernel) (by decide +kernel) ?l_is_int ?c_is_int ?k_is_int ?a_is_int ?l_evidence_number ?c_evidence_number ?k_evidence_number ?a_evidence_number ?l_mixed_row ?c_mixed_row ?k_mixed_row ?a_mixed_row ?l_register_of ?c_register_of ?k_register_of ?a_register_of ?l_rows_told ?c_rows_told ?k_rows_told ?a_rows_told ?l_clean_register ?c_clean_register ?k_clean_register ?a_clean_register ?l__law_pool ?c__law_pool ?k__law_pool ?a__law_pool ?l__law_next ?c__law_next ?k__law_next ?a__law_next ?l__law_row ?c__law_row ?k__law_row ?a__law_row ?l__law_number ?c__law_number ?k__law_number ?a__law_number ?l__law_said ?c__law_said ?k__law_said ?a__law_said ?l__law_is_register ?c__law_is_register ?k__law_is_register ?a__law_is_register ?l__law_told ?c__law_told ?k__law_told ?a__law_told ?l__law_built ?c__law_built ?k__law_built ?a__law_built ?l__law_refused ?c__law_refused ?k__law_refused ?a__law_refused ?l__law_unclean ?c__law_unclean ?k__law_unclean ?a__law_unclean ?l__law_unmixed ?c__law_unmixed ?k__law_unmixed ?a__law_unmixed ?l__law_errors ?c__law_errors ?k__law_errors ?a__law_errors ?l__law_other ?c__law_other ?k__law_other ?a__law_other ?l_law ?c_law ?k_law ?a_law ?a_DeepError ?a_Register ?pg_Register ?hd_Register ?po_Register ?sa_Register ?ic_Register ?io_Register ?mk_Register ?kc_Register ?in_Register ?a_Zero ?pg_Zero ?hd_Zero ?po_Zero ?sa_Zero ?ic_Zero ?io_Zero ?mk_Zero ?kc_Zero ?l_Zero_eq ?c_Zero_eq ?k_Zero_eq ?fi_Zero_eq ?fn_Zero_eq ?in_Zero ?a_Mix ?pg_Mix ?hd_Mix ?po_Mix ?sa_Mix ?ic_Mix ?io_Mix ?mk_Mix ?kc_Mix ?l_Mix_init ?c_Mix_init ?k_Mix_init ?fi_Mix_init ?fn_Mix_init ?l_Mix_eq ?c_Mix_eq ?k_Mix_eq ?fi_Mix_eq ?fn_Mix_eq ?n_Mix_inner ?n_Mix_measurer ?n_Mix_target ?n_Mix_good ?cg ?ct ?is_Zero_Register ?is_Zero_Zero ?is_Zero_Mix ?is_Mix_Register ?is_Mix_Zero ?is_Mix_Mix ?is_NoneType_Register ?is_NoneType_Zero ?is_NoneType_Mix ?is_int_Register ?is_int_Zero ?is_int_Mix ?is_str_Register ?is_str_Zero ?is_str_Mix ?is_tuple_Register ?is_tuple_Zero ?is_tuple_Mix ?nf_Zero_Zero ?nf_Zero_Mix ?nf_Mix_Mix ?nf_Mix_Zero ?nf_Mix_int ?nf_Mix_str ?nf_Mix_tuple ?nf_Zero_int ?a_BadSet ?qi_BadSet ?ov_BadSet ?tkr_BadSet ?sa_BadSet ?ga_BadSet ?gg_BadSet ?no_BadSet ?iC_BadSet ?tI_BadSet ?kC_BadSet ?eC_BadSet ?sE_BadSet ?ty_BadSet ?hd_BadSet ?mC_BadSet ?cC_BadSet ?sup_BadSet ?fn_BadSet ?cd_BadSet ?cc_BadSet ?ca_BadSet ?vs_BadSet ?a_BadEvidence ?qi_BadEvidence ?ov_BadEvidence ?tkr_BadEvidence ?sa_BadEvidence ?ga_BadEvidence ?gg_BadEvidence ?no_BadEvidence ?iC_BadEvidence ?tI_BadEvidence ?kC_BadEvidence ?eC_BadEvidence ?sE_BadEvidence ?ty_BadEvidence ?hd_BadEvidence ?mC_BadEvidence ?cC_BadEvidence ?sup_BadEvidence ?fn_BadEvidence ?cd_BadEvidence ?cc_BadEvidence ?ca_BadEvidence ?vs_BadEvidence ?a_BadLine ?qi_BadLine ?ov_BadLine ?tkr_BadLine ?sa_BadLine ?ga_BadLine ?gg_BadLine ?no_BadLine ?iC_BadLine ?tI_BadLine ?kC_BadLine ?eC_BadLine ?sE_BadLine ?ty_BadLine ?hd_BadLine ?mC_BadLine ?cC_BadLine ?sup_BadLine ?fn_BadLine ?cd_BadLine ?cc_BadLine ?ca_BadLine ?vs_BadLine ?eC_DeepError ?ty_DeepError ?cC_DeepError ?sub_BadSet_BadSet ?sub_BadSet_BadEvidence ?sub_BadSet_BadLine ?sub_BadSet_DeepError ?sub_BadEvidence_BadSet ?sub_BadEvidence_BadEvidence ?sub_BadEvidence_BadLine ?sub_BadEvidence_DeepError ?sub_BadLine_BadSet ?sub_BadLine_BadEvidence ?sub_BadLine_BadLine ?sub_BadLine_DeepError ?opq ?z_len ?z_min ?z_max ?z_int ?z_bool ?z_list ?z_tuple ?z_isinstance ?z_range ?z_zip ?z_enumerate ?z_super ?c_MIXED_MOST ?c_PART_TOP) hmg
    (case a_is_int => k_is)
    (case a_evidence_number => k_is)
    (case a_mixed_row => k_is)
    (case a_register_of => k_is)
    (case a_rows_told => k_is)
    (case a_clean_register => k_is)
    (case a__law_pool => k_is)
    (case a__law_next => k_is)
    (case a__law_row => k_is)
    (case a__law_number => k_is)
    (case a__law_said => k_is)
    (case a__law_is_register => k_is)
    (case a__law_told => k_is)
    (case a__law_built => k_is)
    (case a__law_refused => k_is)
    (case a__law_unclean => k_is)
    (case a__law_unmixed => k_is)
    (case a__law_errors => k_is)
    (case a__law_other => k_is)
    (case a_law => k_is)
    (case a_DeepError => k_is)
    (case a_Register => k_is)
    (case a_Zero => k_is)
    (case a_Mix => k_is)
    (case a_BadSet => k_is)
    (case a_BadEvidence => k_is)
    (case a_BadLine => k_is)
    (case z_len => k_is)
    (case z_min => k_is)
    (case z_max => k_is)
    (case z_int => k_is)
    (case z_bool => k_is)
    (case z_list => k_is)
    (case z_tuple => k_is)
    (case z_isinstance => k_is)
    (case z_range => k_is)
    (case z_zip => k_is)
    (case z_enumerate => k_is)
    (case z_super => k_is)
    (case c_MIXED_MOST => k_is)
    (case c_PART_TOP => k_is)
    (case sa_Register => k_is)
    (case ic_Register => k_is)
    (case in_Register => k_is)
    (case sa_Zero => k_is)
    (case ic_Zero => k_is)
    (case fi_Zero_eq => k_is)
    (case in_Zero => k_is)
    (case sa_Mix => k_is)
    (case ic_Mix => k_is)
    (case fi_Mix_init => k_is)
    (case fi_Mix_eq => k_is)
    (case n_Mix_inner => k_is)
    (case n_Mix_measurer => k_is)
    (case n_Mix_target => k_is)
    (case n_Mix_good => k_is)
    (case sa_BadSet => k_is)
    (case ga_BadSet => k_is)
    (case gg_BadSet => k_is)
    (case no_BadSet => k_is)
    (case iC_BadSet => k_is)
    (case sa_BadEvidence => k_is)
    (case ga_BadEvidence => k_is)
    (case gg_BadEvidence => k_is)
    (case no_BadEvidence => k_is)
    (case iC_BadEvidence => k_is)
    (case sa_BadLine => k_is)
    (case ga_BadLine => k_is)
    (case gg_BadLine => k_is)
    (case no_BadLine => k_is)
    (case iC_BadLine => k_is)
    (case l_is_int => k_is)
    (case l_evidence_number => k_is)
    (case l_mixed_row => k_is)
    (case l_register_of => k_is)
    (case l_rows_told => k_is)
    (case l_clean_register => k_is)
    (case l__law_pool => k_is)
    (case l__law_next => k_is)
    (case l__law_row => k_is)
    (case l__law_number => k_is)
    (case l__law_said => k_is)
    (case l__law_is_register => k_is)
    (case l__law_told => k_is)
    (case l__law_built => k_is)
    (case l__law_refused => k_is)
    (case l__law_unclean => k_is)
    (case l__law_unmixed => k_is)
    (case l__law_errors => k_is)
    (case l__law_other => k_is)
    (case l_law => k_is)
    (case l_Zero_eq => k_is)
    (case l_Mix_init => k_is)
    (case l_Mix_eq => k_is)
    (case fn_BadSet => k_is)
    (case fn_BadEvidence => k_is)
    (case fn_BadLine => k_is)
    (case cc_BadSet => k_is)
    (case cc_BadEvidence => k_is)
    (case cc_BadLine => k_is)
    (case ca_BadSet => k_is)
    (case ca_BadEvidence => k_is)
    (case ca_BadLine => k_is)
    (case vs_BadSet => rfl)
    (case vs_BadEvidence => rfl)
    (case vs_BadLine => rfl)
    (case c_is_int => k_is)
    (case k_is_int => k_is)
    (case c_evidence_number => k_is)
    (case k_evidence_number => k_is)
    (case c_mixed_row => k_is)
    (case k_mixed_row => k_is)
    (case c_register_of => k_is)
    (case k_register_of => k_is)
    (case c_rows_told => k_is)
    (case k_rows_told => k_is)
    (case c_clean_register => k_is)
    (case k_clean_register => k_is)
    (case c__law_pool => k_is)
    (case k__law_pool => k_is)
    (case c__law_next => k_is)
    (case k__law_next => k_is)
    (case c__law_row => k_is)
    (case k__law_row => k_is)
    (case c__law_number => k_is)
    (case k__law_number => k_is)
    (case c__law_said => k_is)
    (case k__law_said => k_is)
    (case c__law_is_register => k_is)
    (case k__law_is_register => k_is)
    (case c__law_told => k_is)
    (case k__law_told => k_is)
    (case c__law_built => k_is)
    (case k__law_built => k_is)
    (case c__law_refused => k_is)
    (case k__law_refused => k_is)
    (case c__law_unclean => k_is)
    (case k__law_unclean => k_is)
    (case c__law_unmixed => k_is)
    (case k__law_unmixed => k_is)
    (case c__law_errors => k_is)
    (case k__law_errors => k_is)
    (case c__law_other => k_is)
    (case k__law_other => k_is)
    (case c_law => k_is)
    (case k_law => k_is)
    (case pg_Register => k_is)
    (case hd_Register => k_is)
    (case po_Register => k_is)
    (case io_Register => k_is)
    (case mk_Register => k_is)
    (case kc_Register => k_is)
    (case pg_Zero => k_is)
    (case hd_Zero => k_is)
    (case po_Zero => k_is)
    (case io_Zero => k_is)
    (case mk_Zero => k_is)
    (case kc_Zero => k_is)
    (case c_Zero_eq => k_is)
    (case k_Zero_eq => k_is)
    (case fn_Zero_eq => k_is)
    (case pg_Mix => k_is)
    (case hd_Mix => k_is)
    (case po_Mix => k_is)
    (case io_Mix => k_is)
    (case mk_Mix => k_is)
    (case kc_Mix => k_is)
    (case c_Mix_init => k_is)
    (case k_Mix_init => k_is)
    (case fn_Mix_init => k_is)
    (case c_Mix_eq => k_is)
    (case k_Mix_eq => k_is)
    (case fn_Mix_eq => k_is)
    (case cg => k_is)
    (case ct => k_is)
    (case is_Zero_Register => kit_is)
    (case is_Zero_Zero => kit_is)
    (case is_Zero_Mix => kit_is)
    (case is_Mix_Register => kit_is)
    (case is_Mix_Zero => kit_is)
    (case is_Mix_Mix => kit_is)
    (case is_NoneType_Register => kit_is)
    (case is_NoneType_Zero => kit_is)
    (case is_NoneType_Mix => kit_is)
    (case is_int_Register => kit_is)
    (case is_int_Zero => kit_is)
    (case is_int_Mix => kit_is)
    (case is_str_Register => kit_is)
    (case is_str_Zero => kit_is)
    (case is_str_Mix => kit_is)
    (case is_tuple_Register => kit_is)
    (case is_tuple_Zero => kit_is)
    (case is_tuple_Mix => kit_is)
    (case nf_Zero_Zero => k_is)
    (case nf_Zero_Mix => k_is)
    (case nf_Mix_Mix => k_is)
    (case nf_Mix_Zero => k_is)
    (case nf_Mix_int => k_is)
    (case nf_Mix_str => k_is)
    (case nf_Mix_tuple => k_is)
    (case nf_Zero_int => k_is)
    (case qi_BadSet => kx_is)
    (case ov_BadSet => kx_is)
    (case tkr_BadSet => k_is)
    (case tI_BadSet => k_is)
    (case kC_BadSet => k_is)
    (case eC_BadSet => k_is)
    (case sE_BadSet => k_is)
    (case ty_BadSet => k_is)
    (case hd_BadSet => k_is)
    (case mC_BadSet => k_is)
    (case cC_BadSet => k_is)
    (case sup_BadSet => ks_is)
    (case cd_BadSet => k_is)
    (case qi_BadEvidence => kx_is)
    (case ov_BadEvidence => kx_is)
    (case tkr_BadEvidence => k_is)
    (case tI_BadEvidence => k_is)
    (case kC_BadEvidence => k_is)
    (case eC_BadEvidence => k_is)
    (case sE_BadEvidence => k_is)
    (case ty_BadEvidence => k_is)
    (case hd_BadEvidence => k_is)
    (case mC_BadEvidence => k_is)
    (case cC_BadEvidence => k_is)
    (case sup_BadEvidence => ks_is)
    (case cd_BadEvidence => k_is)
    (case qi_BadLine => kx_is)
    (case ov_BadLine => kx_is)
    (case tkr_BadLine => k_is)
    (case tI_BadLine => k_is)
    (case kC_BadLine => k_is)
    (case eC_BadLine => k_is)
    (case sE_BadLine => k_is)
    (case ty_BadLine => k_is)
    (case hd_BadLine => k_is)
    (case mC_BadLine => k_is)
    (case cC_BadLine => k_is)
    (case sup_BadLine => ks_is)
    (case cd_BadLine => k_is)
    (case eC_DeepError => k_is)
    (case ty_DeepError => k_is)
    (case cC_DeepError => k_is)
    (case sub_BadSet_BadSet => k_is)
    (case sub_BadSet_BadEvidence => k_is)
    (case sub_BadSet_BadLine => k_is)
    (case sub_BadSet_DeepError => k_is)
    (case sub_BadEvidence_BadSet => k_is)
    (case sub_BadEvidence_BadEvidence => k_is)
    (case sub_BadEvidence_BadLine => k_is)
    (case sub_BadEvidence_DeepError => k_is)
    (case sub_BadLine_BadSet => k_is)
    (case sub_BadLine_BadEvidence => k_is)
    (case sub_BadLine_BadLine => k_is)
    (case sub_BadLine_DeepError => k_is)
    (case opq => k_is)
