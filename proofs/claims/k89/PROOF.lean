import PyProof.Rows.All
import Wide.All
import OpenK.AllK
import Wide.FinOn
import PyProof.EqAt
import PyProof.EqKinds
import PyProof.TupleCall
import KE.KExcSuper
import HandS.ForExc
import HandS.ExcInit
import PyProof.RulesMatchSeq
import PyProof.Rows.MatchSeqLen
import HandS.ForMost
import HandS.NoneIn
import PyProof.Rows.CallKwBuiltin
import KE.GoesEnumKw
import HandS.ExcIs
import PyProof.StrBlock2
import HandS.Evl
import HandS.Steps
import HandS.IsInst
import HandS.Style
import PyProof.StrLawsChain
import PyProof.StrLawsTight
import PySem.Challenge.RW_ridesonce_k89_scripts_are_read
import KE.RegKSuper
import KE.RegKIsAll
set_option Elab.async false
set_option linter.all false
set_option maxRecDepth 100000
set_option maxHeartbeats 4000000
namespace PySem
namespace XRaw
open PySem.W PySem.Calls PyProof.Rows PySem.HandSPX
/-! ### the text of __init__(self, f): super().__init__(msg); self.f = f -/
def xA (f : Str) (p1 p2 : Pos) : Arguments := { posonlyargs := [], args := [{ arg := "self", annotation := none, pos := p1 }, { arg := f, annotation := none, pos := p2 }], vararg := none, kwonlyargs := [], kw_defaults := [], kwarg := none, defaults := [] }
def xB (f : Str) (msg : Expr) (q1 q2 q3 q4 r0 r1 r2 r3 r4 : Pos) : List Stmt :=
  [.Expr (.Call (.Attribute (.Call (.Name "super" q1) [] [] q2) "__init__" q3) [msg] [] q4) q4, .Assign [.Attribute (.Name "self" r1) f r2] (.Name f r3) r4]
def xS (f : Str) : Scope := { kind := .function, names := [(PySem.Str.ofString "self", .local), (f, .local), (PySem.Str.ofString "__class__", .free), (PySem.Str.ofString "super", .globalImplicit)], isGenerator := false, isCoroutine := false, more := [] }
theorem one_size (v : Value) : [v].length ≤ sizeLine := by
  rw [sizeLine_eq]
  exact (by decide : 1 ≤ 16777216)
/-- what the written part says of an own error class x (at C, over ValueError by own classes) and of its __init__ at fI (the cell __class__ at cc, the code object at cda) -/
structure XTxt (prog : Program) (K : Frag) (mg : Str → Option Value) (x qual f : Str) (C fI cc cda : Addr) (m : String) : Prop where
  gC : mg x = some (.ref C)
  cls : ∃ nm q N bs bm sn sub ab col dd k0 k1 k2 k3 k5, K.lookup C = some (excClassObj nm q C N bs bm true sn sub ab col dd k0 k1 k2 k3 k5 "ValueError.__new__") ∧ refsVE bm = true
  sa : findIn K (.ref C) "__setattr__" = some (some (.builtin "object.__setattr__"))
  ga : findIn K (.ref C) "__getattribute__" = some (some (.builtin "BaseException.__getattribute__"))
  gg : findIn K (.ref C) "__getattr__" = some none
  noN : findIn K (.ref C) f = some none
  iC : findIn K (.ref C) "__init__" = some (some (.ref fI))
  tC : typeIn K (.ref fI) = some (.type "function")
  kC : keepIn K (.ref C) = true
  exC : subIn K (.ref C) (.type "BaseException") = some true
  veC : subIn K (.ref C) (.type "ValueError") = some true
  tyC : typeIn K (.ref C) = some (.type "type")
  hdC : hasDictIn K C = true
  slf : mroIn K C (.ref C) = some true
  sup : ks_superIn K C C "__init__" = some (some (.builtin "ValueError.__init__"))
  opq : nsIn K cStatics "thirdparty.any" = some none
  noS : mg "super" = none
  top : (prog.main.scope.names.lookup ("super" : Str)).isSome = false
  cell : ∃ cl cld csl, K.lookup cc = some ⟨cl, cld, .cell (some (.ref C)), csl⟩
  code : ∃ ccl cdd vs ccs file tf, K.lookup cda = some ⟨ccl, cdd, .fields vs, ccs⟩ ∧ vs[2]? = some (.str file tf) ∧ ((prog.main.file : Str) == file) = true
  fn : ∃ (oc : Value) (od : Option Addr) (doc pm : Value) (an : Option Addr) (ct : Value) (osl : Array (Option Value)) (p1 p2 q1 q2 q3 q4 r0 r1 r2 r3 r4 : Pos),
    K.lookup fI = some ⟨oc, od, .func (ksFn "__init__" qual (xA f p1 p2) (xB f (.Constant (.str m) 0 r0) q1 q2 q3 q4 r0 r1 r2 r3 r4) (xS f) .none .none doc pm an (.ref cda) ct cc), osl⟩ ∧ codeIn K (.ref cda) qual = true ∧
    (∀ L, swapsWith (.Name f r3) (some (.Attribute (.Name "self" r1) f r2)) r4.line (ksEnv qual (xS f) L fI (.ref cda) cc) = pure false) ∧
    (∀ u v, bindArgs (ksFn "__init__" qual (xA f p1 p2) (xB f (.Constant (.str m) 0 r0) q1 q2 q3 q4 r0 r1 r2 r3 r4) (xS f) .none .none doc pm an (.ref cda) ct cc) ⟨[u, v], []⟩ = pure [(("self" : Str), u), (f, v)]) ∧
    (∃ pl : Sem Bool, ∀ L, eval (.Call (.Attribute (.Call (.Name "super" q1) [] [] q2) "__init__" q3) [.Constant (.str m) 0 r0] [] q4) (ksEnv qual (xS f) L fI (.ref cda) cc) = (do
      let ov ← attributeBase (.Call (.Name "super" q1) [] [] q2) "__init__" (ksEnv qual (xS f) L fI (.ref cda) cc) (eval (.Call (.Name "super" q1) [] [] q2) (ksEnv qual (xS f) L fI (.ref cda) cc))
      standAt q3.atName
      let (g, first) ← holding [ov] (getMethod ov "__init__" pl)
      callWith q4 g first (backTo q4 (starEach [.Constant (.str m) 0 r0] (ksEnv qual (xS f) L fI (.ref cda) cc))) []))
  nf : f ≠ "self" ∧ f ≠ "__class__" ∧ f ≠ "super" ∧ (f == ("__debug__" : Str)) = false
/-- what __init__ leaves of a fresh exception at x -/
structure InitEnd (f : Str) (h h' : Heap) (x C dx t1 : Addr) (v : Value) : Prop where
  keep : ∀ b o, b ≠ x → h.get? b = some o → h'.get? b = some o
  obj : h'.get? x = some { cls := .ref C, dict := some dx, data := .fields #[.ref t1, .none, .none, .none, .bool false, .none] }
  dbig : h.objs.size ≤ dx
  dne : dx ≠ x
  ns : h'.Ns1 dx (fun y => if y = f then some v else none)
/-- a made error -/
structure OwnMade (f : Str) (h h' : Heap) (e C d : Addr) (v : Value) : Prop where
  keep : ∀ b o, h.get? b = some o → h'.get? b = some o
  new : h.objs.size ≤ e
  obj : ∃ oe vs, h'.get? e = some oe ∧ oe.cls = .ref C ∧ oe.dict = some d ∧ oe.data = .fields vs ∧ vs[1]? = some .none
  dbig : h.objs.size ≤ d
  dne : d ≠ e
  ns : h'.Ns1 d (fun y => if y = f then some v else none)
section
variable {prog : Program} {w : World} {A : Around} {E : Value → Shared → Prop} {R : Result → Shared → Prop} {s : Shared} {K : Frag} {mg mb : Str → Option Value} {x qual f : Str} {C fI cc cda : Addr} {m : String}
theorem call_bw {h : Heap} {g : Array GenState} {d : Drawn} {t : Nat} {os : OsState} {nm q : Str} {C N : Addr} {bs bm : List Value} {hdct : Bool} {sn : List Str} {sub : List Value} {ab : Bool} {col : Option Bool} {dd : Option Addr} {k0 k1 k2 k3 k5 : Option Value} (hbm : refsVE bm = true) {u e t0 : Addr} {rest : List Value} {Q : Value → Shared → Prop}
    (hC : h.get? C = some (excClassObj nm q C N bs bm hdct sn sub ab col dd k0 k1 k2 k3 k5 "ValueError.__new__")) (he : h.get? e = some (excO C t0)) (hu : h.get? u = some (kxs_mw "ValueError.__init__" e)) (hrest : rest.length ≤ sizeLine)
    (hq : ∀ h' t1, (∀ b o, b ≠ e → h.get? b = some o → h'.get? b = some o) → h'.get? e = some (excO C t1) → Q .none ⟨h', g, d, t, os⟩) :
    wpAny (model prog w) A (call (.ref u) rest) Q E ⟨h, g, d, t, os⟩ := by
  refine wpAny_call (codeAny_of_tree ?_)
  show wpAny _ A.in1 (callAny (.ref u) ⟨rest, []⟩) _ _ _
  simp only [callAny]
  refine wpAny_bind (wpAny_load hu ?_)
  simp only [kxs_mw, show (Value.type "method-wrapper" == Value.type "method" || Value.type "method-wrapper" == Value.type "builtin_function_or_method" || Value.type "method-wrapper" == Value.type "method-wrapper") = true by decide, if_true]
  refine W.KFB.if_so (by decide) ?_
  refine wpAny_bind (check_bound_init F.excBase_ValueError.toExcCallFacts hC he rfl ?_)
  refine wpAny_bind (wpAny_pure (wpAny_pure ?_))
  refine ⟨Code.quiet_builtin _ (by decide +kernel), codeAny_builtin F.excBase_ValueError.initEntry ?_⟩
  rw [Around.under_plainId F.excBase_ValueError.init.plain _]
  wp_walk
  refine hq _ h.objs.size (fun b o hb ho => ?_) ?_
  · rw [Heap.get?_update_other _ _ (Ne.symm hb)]
    exact Heap.get?_push_of_some _ ho
  · rw [Heap.get?_update_self _ (Heap.get?_push_of_some _ he) rfl]
    rfl
theorem x_init (T : XTxt prog K mg x qual f C fI cc cda m) {a t0 : Addr} {v : Value} (X : K.In s.heap) (G : s.heap.Ns mainGlobals mg) (B : s.heap.Ns builtinsNs mb) (Bb : ∀ y : Str, y ≠ "__name__" → mb y = bootBuiltins y)
    (hlim : s.heap.NoLimit) (hx : s.heap.get? a = some (excO C t0)) (hnx : K.lookup a = none) (hroom : A.depth < recursionLimit)
    (hq : ∀ h' tk dx t1, InitEnd f s.heap h' a C dx t1 v → R (.ok (.ret .none)) { s with heap := h', toks := tk }) :
    codeAny (model prog w) A (.call (.ref fI) ⟨[.ref a, v], []⟩) R s := by
  obtain ⟨oc, od, doc, pm, an, ct, osl, p1, p2, q1, q2, q3, q4, r0, r1, r2, r3, r4, ho, hcd, hsw, hbd, pl, hev⟩ := T.fn
  obtain ⟨nm, q, N, bs, bm, sn, sub, ab, col, dd, k0, k1, k2, k3, k5, hC, hbm⟩ := T.cls
  obtain ⟨cl, cld, csl, hcell⟩ := T.cell
  obtain ⟨ccl, cdd, vs, ccs, file, tf, hcode, hvs, hfile⟩ := T.code
  obtain ⟨nf1, nf2, nf3, nf4⟩ := T.nf
  have hcl : clsIn K C = some { name := nm, bases := bs, mro := .ref C :: bm, ns := N, qualname := q, hasDict := true, slotNames := sn, subclasses := sub, abstract := ab, collection := col, hasDel := false } := by unfold clsIn; rw [hC] <;> rfl
  have es : (xS f).names.lookup ("self" : Str) = some .local := rfl
  have ef : (xS f).names.lookup f = some .local := by
    unfold xS
    rw [List.lookup_cons, beq_false_of_ne nf1]
    show List.lookup f ((f, NameKind.local) :: _) = _
    rw [List.lookup_cons, beq_self_eq_true]
  have ecl : (xS f).names.lookup ("__class__" : Str) = some .free := by
    unfold xS
    rw [List.lookup_cons, show (("__class__" : Str) == PySem.Str.ofString "self") = false by decide]
    show List.lookup ("__class__" : Str) ((f, NameKind.local) :: _) = _
    rw [List.lookup_cons, beq_false_of_ne (Ne.symm nf2)]
    rfl
  have esu : (xS f).names.lookup ("super" : Str) = some .globalImplicit := by
    unfold xS
    rw [List.lookup_cons, show (("super" : Str) == PySem.Str.ofString "self") = false by decide]
    show List.lookup ("super" : Str) ((f, NameKind.local) :: _) = _
    rw [List.lookup_cons, beq_false_of_ne (Ne.symm nf3)]
    rfl
  refine ks_codeAny_call_defAt (fd := ksFn "__init__" qual (xA f p1 p2) (xB f (.Constant (.str m) 0 r0) q1 q2 q3 q4 r0 r1 r2 r3 r4) (xS f) .none .none doc pm an (.ref cda) ct cc)
    (body := xB f (.Constant (.str m) 0 r0) q1 q2 q3 q4 r0 r1 r2 r3 r4) (binds := [("self", .ref a), (f, v)]) hroom (X _ _ ho) rfl hlim (codeRec_of X hcd) rfl (BindsTo.of_eq (hbd _ _)) ?_ ?_ (fun h₁ hns hk => ?_)
  · intro y hy
    simp only [ksFn, fnX, xS] at hy
    rcases List.mem_cons.mp hy with rfl | hy
    · exact (nomatch ·)
    rcases List.mem_cons.mp hy with rfl | hy
    · exact (nomatch ·)
    rcases List.mem_cons.mp hy with rfl | hy
    · exact (nomatch ·)
    rcases List.mem_cons.mp hy with rfl | hy
    · exact (nomatch ·)
    cases hy
  · intro y hy
    rcases List.mem_cons.mp hy with rfl | hy
    · exact es
    rcases List.mem_cons.mp hy with rfl | hy
    · exact ef
    cases hy
  · obtain ⟨hp, g, d, t, os⟩ := s
    have lv1 : List.lookup f [(("self" : Str), Value.ref a), (f, v)].reverse = some v := by
      show List.lookup f [(f, v), (("self" : Str), Value.ref a)] = some v
      rw [List.lookup_cons, beq_self_eq_true]
    have lv2 : List.lookup ("self" : Str) [(("self" : Str), Value.ref a), (f, v)].reverse = some (Value.ref a) := by
      show List.lookup ("self" : Str) [(f, v), (("self" : Str), Value.ref a)] = some (Value.ref a)
      rw [List.lookup_cons, beq_false_of_ne (Ne.symm nf1)]
      rfl
    have X1 := X.keeps hk
    have G1 := G.keeps hk
    have B1 := B.keeps hk
    have hx1 := hk _ _ hx
    have hxL : hp.objs.size ≠ a := Nat.ne_of_gt (Heap.lt_size hx)
    have hnS : mb "super" = some (.type "super") := (Bb _ (by decide)).trans (by decide +kernel)
    obtain ⟨oC, hC1⟩ : ∃ oC, h₁.get? C = some oC ∧ ∃ cdd, oC.data = .cls cdd := ⟨_, X1 _ _ hC, _, rfl⟩
    refine ks_wpAt_execs_cons (ks_wpAt_Expr_any (ks_wpAt_MethodCall (ks_wpAt_super_base (env := ksEnv qual (xS f) hp.objs.size fI (.ref cda) cc) esu ecl (by decide) rfl (X1 _ _ ho) rfl rfl rfl (X1 _ _ hcode) rfl hvs hfile T.top ?_) (hev _)))
    refine ks_loadName_global rfl esu (loadGlobal_builtin (env := ksEnv qual (xS f) hp.objs.size fI (.ref cda) cc) G1 T.noS B1 hnS ⟨rfl, ?_⟩)
    refine wpAny_loadName_free rfl ecl rfl ⟨_, X1 _ _ hcell, rfl⟩ ?_
    refine wpAny_loadName_local rfl es hns lv2 ?_
    obtain ⟨cdd, hCd⟩ := hC1.2
    refine ks_wpAny_isType_cls hC1.1 hCd ⟨rfl, ?_⟩
    refine ks_wpAny_call_super hC1.1 hCd hx1 rfl (fun c e => by cases e) (looks_mroIn X1 T.slf) (fun h2 e2 kp2 => ?_)
    have I2 : InstAt h2 a (excO C t0) C none := ⟨kp2 _ _ hx1, rfl, rfl, trivial⟩
    have X2 : K.In h2 := X1.keeps kp2
    have hnd : (hp.objs.size : Nat) < h₁.objs.size := hns.lt
    have hsup : alongIn K "__init__" (((Value.ref C :: bm).dropWhile (· != .ref C)).drop 1) = some (some (.builtin "ValueError.__init__")) := by
      have := T.sup
      unfold ks_superIn at this
      rw [hcl] at this
      exact this
    refine kxs_getMethod kxs_ValueError e2 (looks_opaque X2 T.opq) (l₀ := Value.ref C :: bm) ?_ rfl X2 hsup (I2.type.andThen (looks_subIn X2 T.veC)) (ks_ne X2 I2 hcl) (by decide) ?_
    · exact fun A Q E s k q => wpAny_bind ((looks_clsIn X2 hcl) A _ E s k (wpAny_pure q))
    show wpAny _ _ (callWith q4 (.ref h2.objs.size) [] (backTo q4 (starEach [.Constant (.str m) 0 r0] (ksEnv qual (xS f) hp.objs.size fI (.ref cda) cc))) []) _ _ _
    refine kxs_callWith (i := "ValueError.__init__") (x := a) rfl (evalArgs_plain ?_)
    refine Calls.spliced_cons ?_
    show wpAny _ _ (eval (.Constant (.str m) 0 r0) (ksEnv qual (xS f) hp.objs.size fI (.ref cda) cc)) _ _ _
    refine Calls.Constant_str (Calls.spliced_nil ⟨Heap.get?_push_size _ rfl, ?_⟩)
    refine call_bw (nm := nm) (q := q) (N := N) (bs := bs) (bm := bm) (sn := sn) (sub := sub) (ab := ab) (col := col) (dd := dd) (k0 := k0) (k1 := k1) (k2 := k2) (k3 := k3) (k5 := k5) hbm (e := a) (t0 := t0) (Heap.get?_push_of_some _ (X2 _ _ hC)) (Heap.get?_push_of_some _ I2.at_) (Heap.get?_push_size _ rfl) (one_size _) fun h3 t1 k3' e3 => ?_
    -- self.f = f
    have kk : ∀ b o, b ≠ a → h₁.get? b = some o → h3.get? b = some o := fun b o hb z => k3' b o hb (Heap.get?_push_of_some _ (kp2 b o z))
    have X3 : K.In h3 := fun b o z => kk b o (fun y => by rw [y, hnx] at z; cases z) (X1 b o z)
    have hn3 : h3.Ns hp.objs.size (fun y => List.lookup y [(("self" : Str), Value.ref a), (f, v)].reverse) := by
      obtain ⟨oL, es', ep', hoL, hr⟩ := hns
      exact ⟨oL, es', ep', kk _ _ hxL hoL, hr⟩
    show wpAt _ _ _ (execs [.Assign [.Attribute (.Name "self" r1) f r2] (.Name f r3) r4] (ksEnv qual (xS f) hp.objs.size fI (.ref cda) cc)) _ _ _
    refine ks_wpAt_execs_cons (wpAt_of_wpAny (plainObj_wpAny_Assign_Attribute ?_ (hsw _)))
    refine wpAny_Name (wpAny_loadName_local rfl ef hn3 lv1 (wpAny_Name (wpAny_loadName_local rfl es hn3 lv2 ?_) (by decide))) nf4
    refine set_plain X3 (ox := excO C t1) (od := none) ⟨e3, rfl, rfl, trivial⟩ T.sa ?_
    refine exc_osa X3 e3 hcl (show refsVE (.ref C :: bm) = true from hbm) rfl T.noN (fun h' tk' dx k4 dn dne hx4 hn4 => ?_)
    refine wpAt_of_wpAny (wpAny_execs_nil ?_)
    have sz : hp.objs.size ≤ h3.objs.size := Nat.le_of_lt hn3.lt
    exact hq h' tk' dx t1 ⟨fun b o hb e => k4 b o hb (kk b o hb (hk b o e)), hx4, Nat.le_trans sz dn, dne, hn4⟩
theorem x_made (T : XTxt prog K mg x qual f C fI cc cda m) {v : Value} (X : K.In s.heap) (G : s.heap.Ns mainGlobals mg) (B : s.heap.Ns builtinsNs mb) (Bb : ∀ y : Str, y ≠ "__name__" → mb y = bootBuiltins y) (hlim : s.heap.NoLimit) (hroom : A.depth + 1 < recursionLimit)
    (hq : ∀ h' tk e d, OwnMade f s.heap h' e C d v → R (.ok (.ret (.ref e))) { s with heap := h', toks := tk }) :
    codeAny (model prog w) A (.call (.ref C) ⟨[v], []⟩) R s := by
  obtain ⟨nm, q, N, bs, bm, sn, sub, ab, col, dd, k0, k1, k2, k3, k5, hC, hbm⟩ := T.cls
  obtain ⟨hp, g, dr, tk, os⟩ := s
  have k : ∀ b o, hp.get? b = some o → ((hp.push (kdv_tup [v])).push (excO C hp.objs.size)).get? b = some o := fun b o e => Heap.get?_push_of_some _ (Heap.get?_push_of_some _ e)
  have hget : ((hp.push (kdv_tup [v])).push (excO C hp.objs.size)).get? (hp.objs.size + 1) = some (excO C hp.objs.size) := by heap_get
  have hnx : K.lookup (hp.objs.size + 1) = none := by
    cases e : K.lookup (hp.objs.size + 1) with
    | none => rfl
    | some o =>
      have z : hp.get? (hp.objs.size + 1) = some o := X _ _ e
      exact absurd (Nat.lt_of_succ_lt (Heap.lt_size z)) (Nat.lt_irrefl _)
  refine call_own F.excBase_ValueError (fun X => refsVE_contains X bm hbm) (X _ _ hC) (looks_findIn X T.iC) (fun self => bind_fn X self T.tC) (one_size v) ?_
  refine x_init (s := ⟨(hp.push (kdv_tup [v])).push (excO C hp.objs.size), g, dr, tk, os⟩) T (X.keeps k) (G.keeps k) (B.keeps k) Bb (hlim.keeps k) hget hnx ?_ fun h' tk' dx t1 ⟨k', hx, dn, dne, hns⟩ => ?_
  · show A.depth + 1 < recursionLimit
    exact hroom
  · have old : ∀ b o, hp.get? b = some o → h'.get? b = some o := fun b o e => k' b o (Nat.ne_of_lt (Nat.lt_succ_of_lt (Heap.lt_size e))) (k b o e)
    have z : hp.objs.size + 1 + 1 ≤ dx := by
      first
        | (simpa only [Heap.size_push] using dn)
        | exact dn
        | (have q := dn; rw [Heap.size_push, Heap.size_push] at q; exact q)
    exact ⟨rfl, hq h' tk' (hp.objs.size + 1) dx ⟨old, Nat.le_succ _, ⟨_, _, hx, rfl, rfl, rfl, rfl⟩, Nat.le_trans (Nat.le_trans (Nat.le_succ _) (Nat.le_succ _)) z, dne, hns⟩⟩
end
end XRaw
end PySem
namespace L2
open PySem PySem.Spec PyProof.Rows
theorem relO_x {f : Str} {v : V} {v' : Value} (r : RelV v v') (g : Str) : RelO (List.lookup g [(f, v)]) (if g = f then some v' else none) := by
  by_cases hw : g = f
  · subst hw
    rw [if_pos rfl, List.lookup_cons, beq_self_eq_true]
    exact r
  · rw [if_neg hw, List.lookup_cons, beq_false_of_ne hw]
    trivial
section
variable {X : Cx} {x qual f : Str} {C fI cc cda : Addr} {m : String}
/-- x(e) -/
def tMkX (f : Str) (C : Addr) (ta : TA) : St → Hp → XK → Prop := fun σ H Q => ta σ H fun vs H1 => ∃ v, vs = [v] ∧ ∀ d, H1 d = none → Q (.ref C) (some d) (upd H1 d (.xd [(f, v)]))
theorem pmk_x {a : Expr} {ta : TA} {p pos : Pos} {k : Nat} (T : PySem.XRaw.XTxt X.prog X.K X.mg x qual f C fI cc cda m) (hr : Room k X.A) (ha : PA X [a] ta) (hg : Gl X x := by rfl) (hdb : (x == ("__debug__" : Str)) = false := by decide)
    (he : starEach (a :: []) X.env = (false, eval a X.env) :: starEach [] X.env := by rfl) (hpl : (backTo pos (starEach [] X.env)).any (·.1) = false := by rfl) :
    PMk X (.Call (.Name x p) [a] [] pos) (tMkX f C ta) := by
  intro pins s σ H Q I h
  refine wpAny_Call_Name_kw (ld_glob I hg T.gC ?_ hdb)
  refine PySem.W.callWith_K (h₀ := X.base) I.ok.mod.kin T.kC (thn (ha.run pos pins s σ H _ I h) fun us s1 hh => ?_) he hpl
  obtain ⟨vs, H1, I1, r1, v, ev, q1⟩ := hh
  subst ev
  refine ⟨I1.kIn, ?_⟩
  cases r1 with
  | cons rv rn =>
    rename_i v' us'
    cases rn
    show wpAny _ _ (call (.ref C) [v']) _ _ _
    have hlim := I1.nolimit
    have hG : s1.heap.Ns mainGlobals X.mg := I1.ok.mod.glob.keeps I1.bk
    obtain ⟨mb, hB0, hBb⟩ := I1.ok.mod.blt
    have hB : s1.heap.Ns builtinsNs mb := hB0.keeps I1.bk
    obtain ⟨hp, g, dr, tk, os⟩ := s1
    refine wpAny_call (PySem.XRaw.x_made T I1.kIn hG hB hBb hlim (by have := hr.dp; omega) fun h' tk' e d M => ?_)
    show MkP X pins σ Q (.ref e) ⟨h', g, dr, tk', os⟩
    obtain ⟨oe, fv, hoe, hc, hd, hdat, h1⟩ := M.obj
    have hns := M.ns
    obtain ⟨G', g1, g2⟩ := restrict h' fun b => decide (b ≠ e)
    have gk : ∀ b, b ≠ e → G'.get? b = h'.get? b := fun b hb => g1 b (decide_eq_true hb)
    have ge : G'.get? e = none := g2 e (by simp)
    have old : ∀ b o, hp.get? b = some o → G'.get? b = some o := fun b o q => (gk b (Nat.ne_of_lt (Nat.lt_of_lt_of_le (Heap.lt_size q) M.new))).trans (M.keep b o q)
    have ob : ObjOk X.prog X.w (upd H1 d (.xd [(f, v)])) G' d (.xd [(f, v)]) :=
      ⟨_, hns.at (fun o q => (gk d M.dne).trans q), fun g => relO_x rv g⟩
    have J : Inv X pins σ (upd H1 d (.xd [(f, v)])) ⟨G', g, dr, tk', os⟩ := I1.laid (t' := tk') old M.dbig ob
    refine ⟨e, oe, fv, ⟨G', g, dr, tk', os⟩, _, .ref C, some d, rfl, J, fun b o q => ?_, ge, hoe, ⟨hc, hd⟩, hdat, h1, ?_, rfl, I1.bare, raises_own T.exC T.tyC, q1 d (I1.hok.fresh M.dbig)⟩
    · by_cases hb : b = e
      · have q' : G'.get? b = some o := q
        rw [hb, ge] at q'; cases q'
      · exact (gk b hb).symm.trans q
    · rw [upd_ne (Ne.symm M.dne)]
      exact I1.hok.fresh M.new
/-- raise x(e) -/
def tRaiseX (f : Str) (C : Addr) (W : WX) (ta : TA) : TS := fun _ σ H => tMkX f C ta σ H fun cls d H' => W cls d σ H'
theorem ps_raiseX {a : Expr} {ta : TA} {W : WX} {p pos pos2 : Pos} {k : Nat} (hc : X.calm = true) (T : PySem.XRaw.XTxt X.prog X.K X.mg x qual f C fI cc cda m) (hr : Room k X.A) (tk : Takes X W) (ha : PA X [a] ta) (hg : Gl X x := by rfl) (hdb : (x == ("__debug__" : Str)) = false := by decide)
    (he : starEach (a :: []) X.env = (false, eval a X.env) :: starEach [] X.env := by rfl) (hpl : (backTo pos (starEach [] X.env)).any (·.1) = false := by rfl) :
    PS X (.Raise (some (.Call (.Name x p) [a] [] pos)) none pos2) (tRaiseX f C W ta) := ps_raise hc tk (pmk_x T hr ha hg hdb he hpl)
/-- e.f, e the exception that the suite holds (at a; its class cls, its dict d) -/
def tByX (f : Str) (C : Addr) (a : Addr) (cls : Value) (d : Option Addr) (te : TE) : TE := fun σ H Q => te σ H fun x H1 => x = .ref a ∧ cls = .ref C ∧ ∃ (dd : Addr) (v : V), d = some dd ∧ H1 dd = some (.xd [(f, v)]) ∧ Q v H1
theorem pe_byX {a : Addr} {oe : Obj} {cls : Value} {d : Option Addr} {pn : List (Addr × Obj)} {e : Expr} {te : TE} {pos : Pos} (T : PySem.XRaw.XTxt X.prog X.K X.mg x qual f C fI cc cda m) (hz : Zc cls d oe) (hf : ∃ vs, oe.data = .fields vs) (he : PE (X.suite a ((a, oe) :: pn)) e te)
    (hb : attributeBase e f X.env (eval e X.env) = eval e X.env := by rfl) :
    PE (X.suite a ((a, oe) :: pn)) (.Attribute e f pos) (tByX f C a cls d te) := by
  refine ⟨fun pins s σ H Q I h => ?_⟩
  refine attr_of hb (thn (he.run pins s σ H _ I h) fun u s1 hh => ?_)
  obtain ⟨x, H1, I1, rx, ex, ec, dd, v, ed, ea, q⟩ := hh
  subst ex
  obtain rfl : u = Value.ref a := rx
  subst ec
  subst ed
  obtain ⟨ha, _⟩ := I1.pin (a, oe) (List.mem_append_left _ List.mem_cons_self)
  obtain ⟨vs, hd⟩ := hf
  have hx : ObjOk X.prog X.w H1 s1.heap dd (.xd [(f, v)]) := I1.hok dd _ ea
  obtain ⟨mA, hns, hr⟩ := hx
  obtain ⟨od, ho, hl⟩ := lookIn_ns hns
  have l : List.lookup f [(f, v)] = some v := by rw [List.lookup_cons, beq_self_eq_true]
  obtain ⟨u, hu, ru⟩ := RelO.some_of (v := v) (o := mA f) (by rw [← l]; exact hr f)
  have J : PySem.W.InstAt s1.heap a oe C (some od) := ⟨ha, hz.1, by unfold PySem.W.notCls; rw [hd] <;> rfl, by rw [hz.2]; exact ho⟩
  exact HandSPX.exc_get I1.kIn J T.ga T.gg T.exC (PySem.W.findObj_own T.hdC T.noN rfl (by rw [hl, hu])) (handed_of ru) ⟨v, H1, I1.tok _, ru, q⟩
end
end L2

namespace L2
open PySem PySem.Spec PyProof.Rows
/-! ### match subject: case .. -/
abbrev Bs := Option (List (Str × V))
abbrev TPat := V → Hp → (Bs → Hp → Prop) → Prop
abbrev TPats := List V → Hp → (Bs → Hp → Prop) → Prop
def RelBs : Bs → Option (List (Str × Value)) → Prop
  | none, none => True
  | some bs, some us => Paired (fun (p : Str × V) (q : Str × Value) => p.1 = q.1 ∧ RelV p.2 q.2) bs us
  | _, _ => False
def BP (X : Cx) (pins : List (Addr × Obj)) (σ : St) (Q : Bs → Hp → Prop) (r : Option (List (Str × Value))) (s' : Shared) : Prop := ∃ o H', Inv X pins σ H' s' ∧ RelBs o r ∧ Q o H'
structure PPt (X : Cx) (p : Pattern) (t : TPat) : Prop where
  run : ∀ (pins : List (Addr × Obj)) (s : Shared) (σ : St) (H : Hp) (x : V) (v : Value) (Q : Bs → Hp → Prop), Inv X pins σ H s → RelV x v → t x H Q → wpAny (model X.prog X.w) X.A (matchPattern p X.env v) (BP X pins σ Q) X.xe s
structure PPts (X : Cx) (ps : List Pattern) (t : TPats) : Prop where
  run : ∀ (pins : List (Addr × Obj)) (s : Shared) (σ : St) (H : Hp) (xs : List V) (vs : List Value) (Q : Bs → Hp → Prop), Inv X pins σ H s → Vals xs vs → xs.length = ps.length → t xs H Q → wpAny (model X.prog X.w) X.A (matchEach ps X.env vs) (BP X pins σ Q) X.xe s
/-- several, the first that fits (or-patterns of values) -/
structure PPf (X : Cx) (ps : List Pattern) (t : V → Hp → (Bool → Hp → Prop) → Prop) : Prop where
  run : ∀ (pins : List (Addr × Obj)) (s : Shared) (σ : St) (H : Hp) (x : V) (v : Value) (Q : Bool → Hp → Prop), Inv X pins σ H s → RelV x v → t x H Q →
    wpAny (model X.prog X.w) X.A (matchFirst ps X.env v) (fun r s' => ∃ H', Inv X pins σ H' s' ∧ Q r.isSome H') X.xe s
section
variable {X : Cx} {pos : Pos}
/-- a text -/
def ptStr (z : Str) : TPat := fun x H Q => ∃ y, x = .str y ∧ Q (if y = z then some [] else none) H
theorem ppt_str {z : Str} {j : Nat} {p : Pos} : PPt X (.MatchValue (.Constant (.str z) j p) pos) (ptStr z) := by
  refine ⟨fun pins s σ H x v Q I r h => ?_⟩
  obtain ⟨y, rfl, h⟩ := h
  refine wpAny_matchPattern_Value (Calls.Constant_str ?_)
  have I1 : Inv X pins σ H { s with toks := s.toks + 1 } := I.tok _
  refine thn (op_eq (X := X) pins _ σ H (.str y) (.str z) v _ (fun c H1 => ∃ b, c = .bl b ∧ Q (if b = true then some [] else none) H1) I1 r ⟨_, rfl⟩ ⟨rfl, decide (V.str y = V.str z), rfl, ?_⟩) fun c s2 hc => ?_
  · by_cases e : y = z
    · subst e
      rw [decide_eq_true rfl]
      rw [if_pos rfl] at h ⊢
      exact h
    · have e' : ¬ V.str y = V.str z := fun q => e (V.str.inj q)
      rw [decide_eq_false e']
      rw [if_neg e] at h
      exact h
  · obtain ⟨w, H2, I2, rw', b, rfl, q⟩ := hc
    cases rw'
    cases b with
    | true => exact wpAny_truthy_bool ⟨some [], H2, I2, .nil, q⟩
    | false => exact wpAny_truthy_bool ⟨none, H2, I2, trivial, q⟩
/-- a name (none: _) -/
def ptCap (n : Option Str) : TPat := fun x H Q => Q (some (n.map (·, x)).toList) H
theorem ppt_cap {n : Option Str} : PPt X (.MatchAs none n pos) (ptCap n) := by
  refine ⟨fun pins s σ H x v Q I r h => wpAny_matchPattern_Capture ⟨_, H, I, ?_, h⟩⟩
  cases n with
  | none => exact .nil
  | some n => exact .cons ⟨rfl, r⟩ .nil
theorem paired_app {α β : Type} {F : α → β → Prop} : ∀ {a c : List α} {b d : List β}, Paired F a b → Paired F c d → Paired F (a ++ c) (b ++ d)
  | _, _, _, _, .nil, h => h
  | _, _, _, _, .cons r t, h => .cons r (paired_app t h)
/-- several -/
def ptsNil : TPats := fun _ H Q => Q (some []) H
def ptsCons (t : TPat) (u : TPats) : TPats := fun xs H Q => ∃ x r, xs = x :: r ∧ t x H fun o H1 => match o with
  | none => Q none H1
  | some bs => u r H1 fun o' H2 => match o' with
    | none => Q none H2
    | some more => Q (some (bs ++ more)) H2
theorem ppts_nil : PPts X [] ptsNil := ⟨fun pins s σ H xs vs Q I r hl h => wpAny_matchEach_nil ⟨some [], H, I, (Paired.nil : Paired _ [] []), h⟩⟩
theorem ppts_cons {p : Pattern} {ps : List Pattern} {t : TPat} {u : TPats} (h1 : PPt X p t) (h2 : PPts X ps u) (hp : p.isStar = false := by rfl) : PPts X (p :: ps) (ptsCons t u) := by
  refine ⟨fun pins s σ H xs vs Q I r hl h => ?_⟩
  obtain ⟨x, xr, rfl, h⟩ := h
  cases r with
  | @cons _ v _ vr rv rr =>
    refine wpAny_matchEach_cons (thn (h1.run pins s σ H x v _ I rv h) fun o s1 ⟨bo, H1, I1, rb, q⟩ => ?_) hp
    cases o with
    | none =>
      cases bo with
      | none => exact ⟨none, H1, I1, trivial, q⟩
      | some _ => exact rb.elim
    | some us =>
      cases bo with
      | none => exact rb.elim
      | some bs =>
        refine thn (h2.run pins s1 σ H1 xr vr _ I1 rr (by simpa using hl) q) fun o' s2 ⟨bo', H2, I2, rb', q'⟩ => ?_
        cases o' with
        | none =>
          cases bo' with
          | none => exact ⟨none, H2, I2, trivial, q'⟩
          | some _ => exact rb'.elim
        | some us' =>
          cases bo' with
          | none => exact rb'.elim
          | some bs' => exact ⟨some (bs ++ bs'), H2, I2, paired_app rb rb', q'⟩
/-- [p, ..] of a list -/
def ptSeq (K : PySem.W.Frag) (n : Nat) (t : TPats) : TPat := fun x H Q => ∃ a xs, x = .ref a ∧ SqL K H a xs ∧ if xs.length = n then t xs H Q else Q none H
theorem ppt_seq {ps : List Pattern} {t : TPats} {n : Nat} (hc : X.calm = true) (h : PPts X ps t) (hn : ps.length = n := by rfl)
    (hstar : ps.findIdx? (·.isStar) = none := by rfl) (hwild : (ps.all fun p => p.isWildcard || (p.isStar && p.names.isEmpty)) = false := by rfl) : PPt X (.MatchSequence ps pos) (ptSeq X.K n t) := by
  refine ⟨fun pins s σ H x v Q I r h' => ?_⟩
  obtain ⟨a, xs, rfl, hq, h'⟩ := h'
  cases r
  obtain ⟨its, rv, pl, hz⟩ := I.list hq
  have hl' : s.heap.IsList a its.toArray := by
    obtain ⟨o, m, e, c, d, q⟩ := pl
    exact ⟨o, e, c, m, q⟩
  have hsz : its.toArray.size = xs.length := by
    rw [List.size_toArray]
    exact rv.length.symm
  have hfit : (its.toArray.size : Int) < 2 ^ 63 := by
    rw [hsz]
    have : xs.length ≤ 16777216 := by
      rw [← sizeLine_eq]
      exact hz
    omega
  by_cases e : xs.length = n
  · rw [if_pos e] at h'
    refine matchSeq_list_hit hl' hfit (by rw [hsz, e, hn]) ?_ hstar hwild
    have hps : ps.length = its.toArray.size := by rw [hn, hsz, e]
    rw [hps]
    refine PySem.W.kun_itemsOf (I.ok.hd hc) hl' fun h1 hx => ?_
    have I1 : Inv X pins σ H { s with heap := h1, toks := s.toks + 1 + 1 } := I.kept (t' := s.toks + 1 + 1) fun b o e => hx b o (Nat.ne_of_lt (Heap.lt_size e)) e
    exact h.run pins _ σ H xs _ Q I1 (by simpa using rv) (by rw [e, hn]) h'
  · rw [if_neg e] at h'
    exact matchSeq_list_miss hl' hfit (by rw [hsz, hn]; exact e) ⟨none, H, I.kept (t' := s.toks + 1 + 1) fun b o e => e, trivial, h'⟩ hstar hwild
/-- p | q | .. without names -/
def pfNil : V → Hp → (Bool → Hp → Prop) → Prop := fun _ H Q => Q false H
def pfCons (t : TPat) (u : V → Hp → (Bool → Hp → Prop) → Prop) : V → Hp → (Bool → Hp → Prop) → Prop := fun x H Q => t x H fun o H1 => match o with
  | some _ => Q true H1
  | none => u x H1 Q
theorem ppf_nil : PPf X [] pfNil := ⟨fun pins s σ H x v Q I r h => wpAny_matchFirst_nil ⟨H, I, h⟩⟩
theorem ppf_cons {p : Pattern} {ps : List Pattern} {t : TPat} {u : V → Hp → (Bool → Hp → Prop) → Prop} (h1 : PPt X p t) (h2 : PPf X ps u) : PPf X (p :: ps) (pfCons t u) := by
  refine ⟨fun pins s σ H x v Q I r h => wpAny_matchFirst_cons (thn (h1.run pins s σ H x v _ I r h) fun o s1 ⟨bo, H1, I1, rb, q⟩ => ?_)⟩
  cases o with
  | none =>
    cases bo with
    | none => exact h2.run pins s1 σ H1 x v Q I1 r q
    | some _ => exact rb.elim
  | some us =>
    cases bo with
    | none => exact rb.elim
    | some bs => exact ⟨H1, I1, q⟩
def ptOr (t : V → Hp → (Bool → Hp → Prop) → Prop) : TPat := fun x H Q => t x H fun b H1 => Q (if b = true then some [] else none) H1
theorem ppt_or {ps : List Pattern} {t : V → Hp → (Bool → Hp → Prop) → Prop} (h : PPf X ps t) (hn : namesOfAll (ps.take 1) = [] := by rfl) : PPt X (.MatchOr ps pos) (ptOr t) := by
  refine ⟨fun pins s σ H x v Q I r h' => wpAny_matchPattern_Or (thn (h.run pins s σ H x v _ I r h') fun o s1 ⟨H1, I1, q⟩ => ?_)⟩
  cases o with
  | none => exact ⟨none, H1, I1, trivial, q⟩
  | some us =>
    show BP X pins σ Q (some ((namesOfAll (ps.take 1)).filterMap fun n => (us.lookup n).map (n, ·))) s1
    rw [hn]
    exact ⟨some [], H1, I1, (Paired.nil : Paired _ [] []), q⟩
/-- what a case stores -/
def stBs (N : List Str) (sc : Scope) : List (Str × V) → St → (St → Prop) → Prop
  | [], σ, k => k σ
  | (n, v) :: r, σ, k => ∃ i, N[i]? = some n ∧ Loc sc n ∧ stBs N sc r (σ.set i (some v)) k
/-- the cases -/
abbrev TCs := V → TS
structure PCs (X : Cx) (cs : List MatchCase) (t : TCs) : Prop where
  run : ∀ (first : Bool) (pins : List (Addr × Obj)) (s : Shared) (σ : St) (H : Hp) (D : Ends) (x : V) (v : Value), Inv X pins σ H s → RelV x v → t x D σ H → wpAny (model X.prog X.w) X.A (matchCases cs X.env v first) (SP X pins D) X.xe s
def tcNil : TCs := fun _ D σ H => D.nx σ H
theorem pcs_nil : PCs X [] tcNil := ⟨fun f pins s σ H D x v I r h => wpAny_matchCases_nil ⟨σ, H, I, h⟩⟩
def tcCons (N : List Str) (sc : Scope) (p : TPat) (b : TS) (u : TCs) : TCs := fun x D σ H => p x H fun o H1 => match o with
  | none => u x D σ H1
  | some bs => stBs N sc bs σ fun σ' => b D σ' H1
theorem st_bs (hN : X.N.Nodup) (hf : ∀ n, X.fn n = true) {E : Value → Shared → Prop} {pins : List (Addr × Obj)} {H : Hp} : ∀ {bs : List (Str × V)} {us : List (Str × Value)} {σ : St} {s : Shared} {k : St → Prop} {Q : Unit → Shared → Prop},
    Paired (fun (p : Str × V) (q : Str × Value) => p.1 = q.1 ∧ RelV p.2 q.2) bs us → Inv X pins σ H s → stBs X.N X.env.scope bs σ k → (∀ σ' s', Inv X pins σ' H s' → k σ' → Q () s') →
    wpAny (model X.prog X.w) X.A (assignInOrder (us.map fun (n, _) => bindName X.env n) (us.map (·.2))) Q E s
  | _, _, σ, s, k, Q, .nil, I, h, q => wpAny_assignInOrder_none (q σ s I h)
  | _, _, σ, s, k, Q, @Paired.cons _ _ _ (n, v) (n', v') _ _ r t, I, h, q => by
    obtain ⟨i, hi, hl, h⟩ := h
    obtain ⟨e, rv⟩ := r
    have e' : n = n' := e
    subst e'
    refine wpAny_assignInOrder_more (wpAny_bindName (store_ok I hN hi hl rv (fun s2 I2 => ?_) (.inl (hf _))))
    exact st_bs hN hf t I2 h q
theorem pcs_cons {p : Pattern} {body : List Stmt} {rest : List MatchCase} {tp : TPat} {b : TS} {u : TCs} (hN : X.N.Nodup) (hp : PPt X p tp) (hb : PSs X body b) (hr : PCs X rest u) (hf : ∀ n, X.fn n = true := by intro _; rfl) :
    PCs X (⟨p, none, body⟩ :: rest) (tcCons X.N X.env.scope tp b u) := by
  refine ⟨fun f pins s σ H D x v I r h => wpAny_matchCases_cons (thn (hp.run pins s σ H x v _ I r h) fun o s1 ⟨bo, H1, I1, rb, q⟩ => ?_)⟩
  cases o with
  | none =>
    cases bo with
    | none => exact hr.run false pins s1 σ H1 D x v I1 r q
    | some _ => exact rb.elim
  | some us =>
    cases bo with
    | none => exact rb.elim
    | some bs =>
      refine st_bs hN hf rb I1 q fun σ' s' I' q' => ?_
      exact hb.run pins s' σ' H1 D I' q'
def tMatch (te : TE) (tc : TCs) : TS := fun D σ H => te σ H fun x H1 => tc x D σ H1
theorem ps_match {e : Expr} {cs : List MatchCase} {te : TE} {tc : TCs} (he : PE X e te) (hc : PCs X cs tc) : PS X (.Match e cs pos) (tMatch te tc) :=
  ⟨fun pins s σ H D I h => wpAny_Match (thn (he.run pins s σ H _ I h) fun v s1 ⟨x, H1, I1, r, q⟩ => hc.run true pins s1 σ H1 D x v I1 r q)⟩
end
end L2

namespace L2
open PySem PySem.Spec PyProof.Rows
/-! ### for a, b in enumerate(list, start=k) -/
/-- the list at a as it stands at each turn, each item in a new pair with its number, counted from c -/
def ItK (K : PySem.W.Frag) (c : Int) (a : Addr) : It :=
  ⟨fun i H => ∃ (xs : List V) (x : V), SqL K H a xs ∧ xs[i]? = some x, fun i H v H' => ∃ T x, v = .ref T ∧ H T = none ∧ H' = upd H T (.tup [.int (c + (i : Nat)), x]) ∧ ∀ xs, SqL K H a xs → xs[i]? = some x,
    fun i H => ∃ xs : List V, SqL K H a xs ∧ xs.length = i⟩
theorem turn_enumK {P : Program} {w : World} {K : PySem.W.Frag} {elts : List Expr} {kk : Nat} {tpos : Pos} (c : Int) (a e it : Addr) :
    Turn P w K (.Tuple elts kk tpos) (ItK K c a) [e, it] e (fun i h => (∃ old, IsEnum h e it (c + ((i : Nat) : Int)) old) ∧ h.IsListIter it a i ∧ e ≠ it ∧ a ≠ e ∧ a ≠ it) where
  mem := by simp
  obj := fun i h st b hb => by
    obtain ⟨⟨old, he⟩, ⟨o, ho, hc, hd⟩, _⟩ := st
    have e' : b = e ∨ b = it := by simpa using hb
    rcases e' with z | z
    · subst z
      exact ⟨_, he, fun v q => nomatch q⟩
    · subst z
      exact ⟨o, ho, fun v q => by rw [hd] at q; cases q⟩
  keep := fun i h h' st k => by
    obtain ⟨⟨old, he⟩, hi, r⟩ := st
    exact ⟨⟨old, k e (by simp) _ he⟩, hi.at fun o q => k it (by simp) o q, r⟩
  item := by
    intro X hP hw hK hc i pins s σ H E I hf st hg
    subst hP hw hK
    obtain ⟨⟨old, he⟩, hit, hne, nae, nai⟩ := st
    obtain ⟨xs, x, hq, hx⟩ := hg
    obtain ⟨its, rv, pl, hz⟩ := I.list hq
    obtain ⟨u, hu, ru⟩ := rv.get hx
    have hel := Heap.lt_size he
    have hil : it < s.heap.objs.size := by obtain ⟨_, q, _⟩ := hit; exact Heap.lt_size q
    have hlt : i < its.toArray.size := by
      have := (List.getElem?_eq_some_iff.mp hu).1
      simpa using this
    have D := Draws.list (prog := X.prog) (w := X.w) (A := X.A.in1) (I.ok.hd hc) it a nai its.toArray
    refine wpAny_pyNext_enum_itemC D he ⟨hit, pl.isList⟩ hlt hne (by simp [hne, Ne.symm nae]) fun x' h' tk hP' ho hst' hT hsz hk => ?_
    have hP2 : its.toArray[i]? = some x' := hP'
    have ex : x' = u := by
      rw [List.getElem?_toArray, hu] at hP2
      exact (Option.some.inj hP2).symm
    subst ex
    refine ⟨_, rfl, wpAny_letOwnedTupleGo_enum (s := { s with heap := h', toks := tk + 1 }) ho fun h'' he' sb => ?_⟩
    have hT2 : h''.get? s.heap.objs.size = some { cls := .type "tuple", data := .seq #[.int (c + (i : Nat)) tk, x'] } := (sb.2 _ (Nat.ne_of_gt hel)).trans hT
    have new : ObjOk X.prog X.w (upd H s.heap.objs.size (.tup [.int (c + (i : Nat)), x])) h'' s.heap.objs.size (.tup [.int (c + (i : Nat)), x]) :=
      ⟨by show 2 ≤ sizeLine; decide, [.int (c + (i : Nat)) tk, x'], .cons ⟨_, rfl⟩ (.cons ru .nil), ⟨_, hT2, rfl, _, rfl⟩⟩
    have I1 : Inv X pins σ (upd H s.heap.objs.size (.tup [.int (c + (i : Nat)), x])) { s with heap := h'', toks := tk + 1 } :=
      I.turnedNew (ch := [e, it]) (fun b ob hb q => (sb.2 b (fun z => hb (by simp [z]))).trans (hk b ob (fun z => hb (by simp [z])) (fun z => hb (by simp [z])) q)) hf (Nat.le_refl _) new
    refine ⟨.ref s.heap.objs.size, _, I1, rfl, ⟨_, x, rfl, I.hok.fresh (Nat.le_refl _), rfl, fun ys hy => by rw [I.list_inj hy hq]; exact hx⟩, ⟨⟨x', ?_⟩, hst'.1.at fun o q => (sb.2 it (Ne.symm hne)).trans q, hne, nae, nai⟩, fun b hb => ?_⟩
    · have e1 : c + ((i + 1 : Nat) : Int) = c + (i : Int) + 1 := by omega
      rw [e1]
      exact he'
    · have hb' : b < s.heap.objs.size := by
        have e' : b = e ∨ b = it := by simpa using hb
        rcases e' with z | z <;> rw [z] <;> assumption
      rw [upd_ne (Nat.ne_of_lt hb')]
      exact (hf b hb).1
  done := by
    intro X hP hw hK hc i pins s σ H E I hf st hg
    subst hP hw hK
    obtain ⟨⟨old, he⟩, hit, hne, nae, nai⟩ := st
    obtain ⟨xs, hq, hx⟩ := hg
    obtain ⟨its, rv, pl, hz⟩ := I.list hq
    have D := Draws.list (prog := X.prog) (w := X.w) (A := X.A.in1) (I.ok.hd hc) it a nai its.toArray
    obtain ⟨f0, f1, f2, f3, f4, f5⟩ := hf it (by simp)
    have hl := rv.length
    have hi : its.toArray.size = i := by
      rw [List.size_toArray]
      omega
    refine wpAny_pyNext_enum_endD D he ⟨by rw [hi]; exact hit, pl.isList⟩ fun h' eb => ⟨rfl, I.turned (t' := s.toks) (fun b o hb q => eb b o hb q) f0 f1 f3 f4 f5⟩
  self := fun A i s Q E st h => wpAny_pyIter_enum st.1.choose_spec h
def iEnumK (K : PySem.W.Frag) (c : Int) (ta : TA) : TI := fun σ H R => ta σ H fun vs H1 => ∃ a xs, vs = [.ref a] ∧ SqL K H1 a xs ∧ R (ItK K c a) H1
theorem pi_enumK {X : Cx} {e : Expr} {ta : TA} {p pos tpos kp cp : Pos} {elts : List Expr} {kk j : Nat} {c : Int} (hg : Gl X "enumerate") (hm : X.mg "enumerate" = none) (hc0 : -(2 ^ 63) ≤ c ∧ c < 2 ^ 63) (ha : PA X [e] ta) (hs : starEach [e] X.env = [(false, eval e X.env)] := by rfl) :
    PI X (.Tuple elts kk tpos) (.Call (.Name "enumerate" p) [e] [⟨some (PySem.Str.ofString "start"), .Constant (.int c) j cp, kp⟩] pos) (iEnumK X.K c ta) := by
  refine ⟨fun pins s σ H R I h => ?_⟩
  refine wpAny_Call_Name_kw (ld_blt I hg hm boot_enumerate ?_)
  rw [hs]
  unfold callWith
  refine wpAny_bind (wpAny_holding ?_)
  show wpAny _ _ (evalArgs (.type "enumerate") true ((false, eval e X.env) :: []) (backToKw pos (keywordEach [⟨some (PySem.Str.ofString "start"), .Constant (.int c) j cp, kp⟩] X.env))) _ _ _
  refine evalArgs_kwB rfl ?_
  have ha' := ha.run pos pins s σ H _ I h
  rw [hs] at ha'
  refine thn ha' fun us s1 ⟨vs, H1, I1, r1, a, xs, ex, hq, q⟩ => ?_
  subst ex
  cases r1 with
  | cons r rr =>
    cases rr
    cases r
    refine kws_cons (wpAny_Constant_int (kws_nil ?_))
    refine wpAny_bind (wpAny_standAt ?_)
    have I2 : Inv X pins σ H1 { s1 with toks := s1.toks + 1 } := I1.tok _
    obtain ⟨its, rv, pl, hz⟩ := I2.list hq
    refine wpAny_bind (wpAny_pure ?_)
    refine wpAny_bind ?_
    show wpAny _ _ (call (.type "enumerate") [.ref a] [(Str.ofString "start", .int c s1.toks)]) _ _ _
    refine enum_begins_start (begins_list a its.toArray) pl.isList hc0.1 hc0.2 fun h' he hit hsz hk => wpAny_bind (wpAny_holding (wpAny_point (wpAny_pure ?_)))
    refine wpAny_pyIter_enum he ?_
    have I3 : Inv X pins σ H1 { s1 with heap := h', toks := s1.toks + 1 } := I2.kept (t' := s1.toks + 1) hk
    have hal : a < s1.heap.objs.size := by
      obtain ⟨o, n, e, _⟩ := pl
      exact Heap.lt_size e
    refine ⟨s1.heap.objs.size + 1, [s1.heap.objs.size + 1, s1.heap.objs.size], _, _, H1, rfl, I3, turn_enumK c a (s1.heap.objs.size + 1) s1.heap.objs.size, ⟨⟨.none, ?_⟩, ⟨_, hit, rfl, rfl⟩, Nat.succ_ne_self _, Nat.ne_of_lt (Nat.lt_succ_of_lt hal), Nat.ne_of_lt hal⟩, fun b hb => ?_, q⟩
    · have e1 : c + ((0 : Nat) : Int) = c := by simp
      rw [e1]
      exact he
    · have e' : b = s1.heap.objs.size + 1 ∨ b = s1.heap.objs.size := by simpa using hb
      have hle : s1.heap.objs.size ≤ b := by
        rcases e' with z | z
        · rw [z]; exact Nat.le_add_right _ _
        · rw [z]; exact Nat.le_refl _
      exact I2.fpOk hle (I2.hok.fresh hle)
end L2

/-! isinstance(e, C) of a caught error that has a dict of its own -/
namespace PySem.XRaw
open PySem PySem.Spec PySem.Calls PyProof.Rows PySem.W
section
variable {prog : Program} {w : World} {A : Around} {E : Value → Shared → Prop} {K : Frag} {x D : Addr} {ox : Obj} {od : Option Obj}
/-- what stands of __class__ on an object of D, whatever its dict -/
theorem find_class (C : L2.ExcC K D) : findObj K D od "__class__" = some (.bind (.builtin "getset_descriptor.__get__") (.builtin "object.__class__")) := by
  obtain ⟨cd, hc, _⟩ := any_some C.hd
  have h1 := C.ha
  have h2 := C.hn
  have h3 := C.ht
  simp only [findObj, hc, h1, h2, h3, Option.bind_some]
theorem class_of {Q : Option Value → Shared → Prop} (C : L2.ExcC K D) : ∀ {s : Shared}, K.In s.heap → InstAt s.heap x ox D od → Q (some (.ref D)) { s with toks := s.toks + 1 } → wpAny (model prog w) A (getAttr? (.ref x) "__class__") Q E s
  | ⟨hp, g, d, t, os⟩, X, I, h => by
    have own : Looks (model prog w) hp (typeOf (.ref x)) (.ref D) := I.type
    have hook := looks_findIn (M := model prog w) X C.hg
    have late := looks_findIn (M := model prog w) X C.hk
    have found := looks_find (M := model prog w) X I (find_class C)
    have isErr : Looks (model prog w) hp (isInstance (.ref x) (.type "BaseException")) true := own.andThen (looks_subIn X C.hs)
    have other : (onTheHeap (Value.ref D) && Value.builtin "BaseException.__getattribute__" == Value.builtin "object.__getattribute__") = false := by
      have : (Value.builtin "BaseException.__getattribute__" == Value.builtin "object.__getattribute__") = false := by decide +kernel
      rw [this]
      rfl
    unfold getAttr? getAttrBy? getAttrBy
    refine wpAny_bind (wpAny_mkText (wpAny_bind (wpAny_attempt (wpAny_holding (wpAny_bind (own.at (wpAny_bind (hook.at ?_))))))))
    show wpAny _ _ (if (onTheHeap (Value.ref D) && Value.builtin "BaseException.__getattribute__" == Value.builtin "object.__getattribute__") = true then _ else _) _ _ _
    rw [other, if_neg Bool.false_ne_true]
    unfold getAttrByItsOwn hookBefore
    refine wpAny_bind ?_
    rw [if_pos (show onTheHeap (Value.ref D) = true from rfl)]
    refine late.at ?_
    refine wpAny_bind (wpAny_attempt (wpAny_holding ?_))
    unfold callGetattribute
    rw [show (false && onTheHeap (Value.builtin "BaseException.__getattribute__")) = false from rfl, if_neg Bool.false_ne_true]
    unfold boundAndCalled
    rw [PySem.F.excAttr_ValueError.ga.bind (.ref x)]
    refine wpAny_bind (wpAny_pure ?_)
    show wpAny _ _ (call (.builtin "BaseException.__getattribute__") [.ref x, .str "__class__" t]) _ _ _
    refine wpAny_call (codeAny_call_builtin PySem.F.excAttr_ValueError.ga.plain PySem.F.entry_bexc_ga ?_)
    refine @check_slot (model prog w) _ _ ⟨hp, g, d, t + 1, os⟩ "BaseException.__getattribute__" "BaseException" "__getattribute__" (.ref x) [.str "__class__" t] [] _ (by decide +kernel) (by decide +kernel) isErr (PySem.F.args_bexc_ga (.ref x) (.str "__class__" t)) ?_
    unfold Builtin.«object.__getattribute__»
    refine wpAny_bind (wpAny_of_eq (a := ((Value.ref x : Value), [Value.str "__class__" t])) (by first | rfl | (simp only [slotArgs]; rfl)) ?_)
    refine wpAny_bind (wpAny_pure (wpAny_bind (own.at (wpAny_bind (found.at ?_)))))
    show wpAny _ _ (holding [Value.builtin "object.__class__"] (call (.builtin "getset_descriptor.__get__") [.builtin "object.__class__", .ref x, .ref D]) >>= ret) _ _ _
    refine wpAny_bind (wpAny_holding (wpAny_call (class_get (s := ⟨hp, g, d, t + 1, os⟩) (ox := ox) (od := od) X I C.hm ?_)))
    refine wpAny_pure ?_
    show wpAny _ _ (handedOut (.ref D)) _ _ _
    rw [handedOut_of (v := .ref D) rfl]
    first
      | exact wpAny_pure (wpAny_pure h)
      | exact wpAny_pure h
      | exact wpAny_pure (wpAny_bind (wpAny_pure (wpAny_pure h)))
theorem cls_there (C : L2.ExcC K D) : ∃ c d cd sl, K.lookup D = some ⟨c, d, .cls cd, sl⟩ := by
  obtain ⟨cd, hc, _⟩ := any_some C.hd
  unfold clsIn at hc
  split at hc
  · rename_i c' d' cd' sl' ho
    exact ⟨_, _, _, _, ho⟩
  · cases hc
theorem kit_err (C : L2.ExcC K D) : KitX K (.ref x) (.ref D) (fun h => InstAt h x ox D od) where
  ty := fun _ _ _ I => I.type
  it := fun _ _ X _ => by
    obtain ⟨c, d, cd, sl, ho⟩ := cls_there C
    intro A' Q' E' s' k q
    unfold isType loadHead
    exact wpAny_bind (wpAny_loadPart (k _ _ (X _ _ ho)) (wpAny_pure q))
  ne := fun h tp dd its n sl X htp => by
    obtain ⟨c, d, cd, sl', ho⟩ := cls_there C
    refine Bool.eq_false_iff.mpr fun q => ?_
    have e : D = tp := Value.ref.inj (beq_iff_eq.mp q)
    subst e
    have z := (X _ _ ho).symm.trans htp
    cases z
  ca := fun X I k => class_of C X I k
end
end PySem.XRaw
namespace L2
open PySem PySem.Spec PyProof.Rows
/-- isinstance(e, c), e the exception that the suite holds (its class cls, its dict d) -/
def rIsX (K : PySem.W.Frag) (D a : Addr) (cls : Value) (d : Option Addr) : List V → Hp → VK → Prop := fun xs H Q => ∃ (C2 : Addr) (b : Bool) (dd : Addr) (fs : List (Str × V)), xs = [.ref a, .ref C2] ∧ cls = .ref D ∧ d = some dd ∧ H dd = some (.xd fs) ∧ PySem.W.kitOne K (.ref D) (.ref C2) = some b ∧ Q (.bl b) H
theorem call_isX {X : Cx} {a D : Addr} {oe : Obj} {cls : Value} {d : Option Addr} {pn : List (Addr × Obj)} (C : ExcC X.K D) (hz : Zc cls d oe) (hf : ∃ vs, oe.data = .fields vs) : CallR (X.suite a ((a, oe) :: pn)) (.builtin "isinstance") (rIsX X.K D a cls d) := by
  intro pins s σ H xs us Q I r h
  obtain ⟨C2, b, dd, fs, rfl, rfl, rfl, hx, e, q⟩ := h
  cases r with
  | cons rx rr =>
    cases rr with
    | cons rt rr =>
      cases rr
      cases rx
      cases rt
      obtain ⟨hget, _⟩ := I.pin (a, oe) (List.mem_append.mpr (.inl List.mem_cons_self))
      obtain ⟨vs, hv⟩ := hf
      have hok : ObjOk X.prog X.w H s.heap dd (.xd fs) := I.hok dd _ hx
      obtain ⟨mA, hns, hr⟩ := hok
      obtain ⟨od, ho, hl⟩ := lookIn_ns hns
      have J : PySem.W.InstAt s.heap a oe D (some od) := ⟨hget, hz.1, by unfold PySem.W.notCls; rw [hv] <;> rfl, by rw [hz.2]; exact ho⟩
      exact PySem.W.kia_one (PySem.XRaw.kit_err C) I.kIn J e (fun z => nomatch z) fun tk => ⟨.bl b, H, I.kept (t' := tk) fun _ _ z => z, rfl, q⟩
end L2

namespace Lv
open PySem PySem.Spec PyProof.Rows L2
/-! ### readings, applied -/
section
variable {K : PySem.W.Frag} {D : Ends} {σ : L2.St} {H : Hp} {Q : VK} {QB : Bool → Hp → Prop} {QA : List V → Hp → Prop} {t u : TS} {te ta tb tc : TE} {tt tu : TT} {g : TG} {tl : TA} {i : Nat} {v x y : V} {r r' : R2}
theorem r_seq : tSeq t u D σ H ↔ t { D with nx := u D } σ H := Iff.rfl
theorem r_next : tNext D σ H ↔ D.nx σ H := Iff.rfl
theorem r_break : tBreak D σ H ↔ D.bk σ H := Iff.rfl
theorem r_cont : tCont D σ H ↔ D.ct σ H := Iff.rfl
theorem r_asg : tAsg te g D σ H ↔ te σ H fun x H1 => g x σ H1 D.nx := Iff.rfl
theorem r_name {QS : L2.St → Hp → Prop} : gName i v σ H QS ↔ QS (σ.set i (some v)) H := Iff.rfl
theorem r_drop : tDrop te D σ H ↔ te σ H fun _ H1 => D.nx σ H1 := Iff.rfl
theorem r_ret : tRet te D σ H ↔ te σ H D.rt := Iff.rfl
theorem r_retN : tRetN D σ H ↔ D.rt .non H := Iff.rfl
theorem r_if : tIfS tt t u D σ H ↔ tt σ H fun b H1 => if b = true then t D σ H1 else u D σ H1 := Iff.rfl
theorem r_var : tVar i σ H Q ↔ ∃ v, σ[i]? = some (some v) ∧ Q v H := Iff.rfl
theorem r_c : tC v σ H Q ↔ Q v H := Iff.rfl
theorem r_op : tOp r ta tb σ H Q ↔ ta σ H fun x H1 => tb σ H1 fun y H2 => r x y H2 Q := Iff.rfl
theorem r_un {r : V → Hp → VK → Prop} : tUn r ta σ H Q ↔ ta σ H fun x H1 => r x H1 Q := Iff.rfl
theorem r_test : tTest te σ H QB ↔ te σ H fun x H' => ∃ k, x = .bl k ∧ QB k H' := Iff.rfl
theorem r_B : tB te σ H QB ↔ te σ H fun x H' => ∃ k, x = .bl k ∧ QB k H' := Iff.rfl
theorem r_and : tAnd tt tu σ H QB ↔ tt σ H fun c H1 => if c = true then tu σ H1 QB else QB false H1 := Iff.rfl
theorem r_or : tOr tt tu σ H QB ↔ tt σ H fun c H1 => if c = true then QB true H1 else tu σ H1 QB := Iff.rfl
theorem r_not : tNot tt σ H QB ↔ tt σ H fun c H1 => QB (!c) H1 := Iff.rfl
theorem r_andV : tAndV ta tb σ H Q ↔ ta σ H fun x H1 => ∃ c, x = .bl c ∧ if c = true then tb σ H1 Q else Q (.bl false) H1 := Iff.rfl
theorem r_orV : tOrV ta tb σ H Q ↔ ta σ H fun x H1 => ∃ c, x = .bl c ∧ if c = true then Q (.bl true) H1 else tb σ H1 Q := Iff.rfl
theorem r_notV : tNotV ta σ H Q ↔ ta σ H fun x H1 => ∃ c, x = .bl c ∧ Q (.bl (!c)) H1 := Iff.rfl
theorem r_ifE : tIf tt ta tb σ H Q ↔ tt σ H fun c H1 => if c = true then ta σ H1 Q else tb σ H1 Q := Iff.rfl
theorem r_nil : tNil σ H QA ↔ QA [] H := Iff.rfl
theorem r_cons : tCons te tl σ H QA ↔ te σ H fun x H1 => tl σ H1 fun xs H2 => QA (x :: xs) H2 := Iff.rfl
theorem r_tup : tTup tl σ H Q ↔ tl σ H fun xs H1 => xs.length ≤ sizeLine ∧ ∀ p, H1 p = none → Q (.ref p) (upd H1 p (.tup xs)) := Iff.rfl
theorem r_lst : tLst tl σ H Q ↔ tl σ H fun xs H1 => xs.length ≤ sizeLine ∧ ∀ p, H1 p = none → Q (.ref p) (upd H1 p (.lst xs)) := Iff.rfl
theorem r_call {sp : Sp} {dvs : List V} {E : XK} : tCall sp dvs E tl σ H Q ↔ tl σ H fun vs H1 => sp (vs ++ dvs) H1 Q E := Iff.rfl
theorem r_CB {r : List V → Hp → VK → Prop} : tCB r tl σ H Q ↔ tl σ H fun vs H1 => r vs H1 Q := Iff.rfl
theorem r_BM {T : String} {r : V → List V → Hp → VK → Prop} : tBM K T r te tl σ H Q ↔ te σ H fun x H1 => tyV K T x H1 ∧ tl σ H1 fun xs H2 => r x xs H2 Q := Iff.rfl
theorem r_BM0 {T : String} {r : V → List V → Hp → VK → Prop} : tBM0 K T r te σ H Q ↔ te σ H fun x H1 => tyV K T x H1 ∧ r x [] H1 Q := Iff.rfl
theorem r_M1 {r : V → List V → Hp → VK → Prop} : tM1 r ta tb σ H Q ↔ ta σ H fun x H1 => (∃ a, x = .str a) ∧ tb σ H1 fun y H2 => r x [y] H2 Q := Iff.rfl
theorem r_M0 {r : V → List V → Hp → VK → Prop} : tM0 r ta σ H Q ↔ ta σ H fun x H1 => (∃ a, x = .str a) ∧ r x [] H1 Q := Iff.rfl
theorem r_Sl {r : V → Option Int → Option Int → Hp → VK → Prop} {lo hi : TO} : L2.tSl r te lo hi σ H Q ↔ te σ H fun x H1 => lo σ H1 fun l H2 => hi σ H2 fun u H3 => r x l u H3 Q := Iff.rfl
theorem r_part {QO : Option Int → Hp → Prop} : tPart te σ H QO ↔ te σ H fun x H1 => ∃ i, x = .int i ∧ QO (some i) H1 := Iff.rfl
theorem r_nopart {QO : Option Int → Hp → Prop} : tNoPart σ H QO ↔ QO none H := Iff.rfl
theorem r_chain : tChain r r' ta tb tc σ H Q ↔ ta σ H fun x H1 => tb σ H1 fun y H2 => r x y H2 fun z H3 => ∃ k, z = .bl k ∧ (if k = true then tc σ H3 fun w' H4 => r' y w' H4 Q else Q (.bl false) H3) := Iff.rfl
theorem r_I0 {f : Int → Int → V} : rI0 f x y H Q ↔ ∃ i j, x = .int i ∧ y = .int j ∧ Q (f i j) H := Iff.rfl
theorem r_I {C : Int → Int → Prop} {f : Int → Int → V} : rI C f x y H Q ↔ ∃ i j, x = .int i ∧ y = .int j ∧ C i j ∧ Q (f i j) H := Iff.rfl
theorem r_eq : rEq x y H Q ↔ scal x y = true ∧ Q (.bl (decide (x = y))) H := Iff.rfl
theorem r_ne : rNe x y H Q ↔ scal x y = true ∧ Q (.bl (!decide (x = y))) H := Iff.rfl
theorem r_U {f : Int → V} : rU f x H Q ↔ ∃ i, x = .int i ∧ Q (f i) H := Iff.rfl
theorem r_ixL : rIxL K x y H Q ↔ ∃ p xs i v, x = .ref p ∧ y = .int i ∧ SqL K H p xs ∧ atI xs i = some v ∧ Q v H := Iff.rfl
theorem r_ixT : rIxT K x y H Q ↔ ∃ p xs i v, x = .ref p ∧ y = .int i ∧ SqT K H p xs ∧ atI xs i = some v ∧ Q v H := Iff.rfl
theorem r_ixS : rIxS x y H Q ↔ ∃ z i c, x = .str z ∧ y = .int i ∧ z.length ≤ sizeLine ∧ atI z.cps.toList i = some c ∧ Q (.str ⟨#[c]⟩) H := Iff.rfl
theorem r_in {neg : Bool} : rIn K neg x y H Q ↔ ∃ p xs, y = .ref p ∧ (SqL K H p xs ∨ SqT K H p xs) ∧ flatV x = true ∧ xs.all flatV = true ∧ Q (.bl (if neg then !inV x xs else inV x xs)) H := Iff.rfl
theorem r_cat : rCat x y H Q ↔ ∃ l b xs zs, x = .ref l ∧ y = .ref b ∧ H l = some (.lst xs) ∧ H b = some (.lst zs) ∧ xs.length + zs.length ≤ sizeLine ∧ ∀ p, H p = none → Q (.ref p) (upd H p (.lst (xs ++ zs))) := Iff.rfl
theorem r_rep : rRep x y H Q ↔ ∃ l k xs, x = .ref l ∧ y = .int k ∧ H l = some (.lst xs) ∧ -(2 ^ 63) ≤ k ∧ k < 2 ^ 63 ∧ xs.length * k.toNat ≤ sizeLine ∧ ∀ p, H p = none → Q (.ref p) (upd H p (.lst (List.replicate k.toNat xs).flatten)) := Iff.rfl
theorem r_slL {lo hi : Option Int} : rSlL K x lo hi H Q ↔ ∃ a xs, x = .ref a ∧ SqL K H a xs ∧ ∀ p, H p = none → Q (.ref p) (upd H p (.lst (cutV xs lo hi))) := Iff.rfl
theorem r_slS {lo hi : Option Int} : rSlS x lo hi H Q ↔ ∃ z, x = .str z ∧ z.length ≤ sizeLine ∧ Q (.str (cutS z lo hi)) H := Iff.rfl
theorem r_append {vs : List V} : rAppend x vs H Q ↔ ∃ l xs y, x = .ref l ∧ vs = [y] ∧ H l = some (.lst xs) ∧ xs.length < sizeLine ∧ Q .non (upd H l (.lst (xs ++ [y]))) := Iff.rfl
theorem r_pop {vs : List V} : rPop x vs H Q ↔ ∃ l xs y, x = .ref l ∧ vs = [] ∧ H l = some (.lst xs) ∧ xs[xs.length - 1]? = some y ∧ Q y (upd H l (.lst xs.dropLast)) := Iff.rfl
theorem r_sub {to ti : TE} {ts : TSet} {QS : L2.St → Hp → Prop} : gSub to ti ts v σ H QS ↔ to σ H fun o H1 => ti σ H1 fun i H2 => ts o i v H2 fun H3 => QS σ H3 := Iff.rfl
theorem r_setL {o i : V} {QH : Hp → Prop} : rSetL o i v H QH ↔ ∃ p xs k j, o = .ref p ∧ i = .int k ∧ H p = some (.lst xs) ∧ ixN xs.length k = some j ∧ QH (upd H p (.lst (xs.set j v))) := Iff.rfl
theorem r_all {vs : List V} : rAll K vs H Q ↔ ∃ (a : Addr) (bs : List Bool), vs = [V.ref a] ∧ SqL K H a (bs.map V.bl) ∧ Q (.bl (bs.all id)) H := Iff.rfl
theorem r_strs {ys : List Str} : rNewStrs ys H Q ↔ ∀ p, H p = none → Q (.ref p) (upd H p (.lst (ys.map V.str))) := Iff.rfl
theorem r_match {tc : TCs} : tMatch te tc D σ H ↔ te σ H fun x H1 => tc x D σ H1 := Iff.rfl
end
/-- a list of constant texts -/
def tStrs (zs : List Str) : TE := fun _ H Q => zs.length ≤ sizeLine ∧ ∀ p, H p = none → Q (.ref p) (upd H p (.lst (zs.map V.str)))
def conss : List Str → TA
  | [] => tNil
  | z :: zs => tCons (tC (.str z)) (conss zs)
theorem conss_eq (zs : List Str) (σ : L2.St) (H : Hp) (Q : List V → Hp → Prop) : conss zs σ H Q ↔ Q (zs.map V.str) H := by
  induction zs generalizing Q with
  | nil => exact Iff.rfl
  | cons z zs ih => exact ih _
theorem pe_strs {X : Cx} {e : Expr} {zs : List Str} (h : PE X e (tLst (conss zs))) : PE X e (tStrs zs) := by
  have : tStrs zs = tLst (conss zs) := by
    funext σ H Q
    apply propext
    unfold tStrs tLst
    rw [conss_eq, List.length_map]
  rw [this]
  exact h
theorem r_tStrs {zs : List Str} {σ : L2.St} {H : Hp} {Q : VK} : tStrs zs σ H Q ↔ zs.length ≤ sizeLine ∧ ∀ p, H p = none → Q (.ref p) (upd H p (.lst (zs.map V.str))) := Iff.rfl
/-- is True, is False, of a bool, an int, a text -/
def isTF : V → Bool → Option Bool
  | .bl a, b => some (decide (a = b))
  | .int _, _ => some false
  | .str _, _ => some false
  | _, _ => none
def rIsTF : R2 := fun x y H Q => ∃ b r, y = .bl b ∧ isTF x b = some r ∧ Q (.bl r) H
theorem op_isTF {X : Cx} : OpR X (compareOp .Is) rIsTF := by
  intro pins s σ H x y v u Q I rx ry h
  obtain ⟨b, r, rfl, hr, q⟩ := h
  cases (show u = Value.bool b from ry)
  cases x with
  | bl a =>
    cases (show v = Value.bool a from rx)
    cases hr
    by_cases e : a = b
    · subst e
      exact wpAny_is_self rfl ⟨.bl true, H, I, rfl, by simpa using q⟩
    · exact wpAny_is_other rfl (fun z => e (Value.bool.inj z)) ⟨.bl false, H, I, rfl, by simpa [e] using q⟩
  | int i =>
    obtain ⟨t, rfl⟩ := (show ∃ t, v = Value.int i t from rx)
    cases hr
    exact wpAny_is_other rfl (fun z => by cases z) ⟨.bl false, H, I, rfl, q⟩
  | str i =>
    obtain ⟨t, rfl⟩ := (show ∃ t, v = Value.str i t from rx)
    cases hr
    exact wpAny_is_other rfl (fun z => by cases z) ⟨.bl false, H, I, rfl, q⟩
  | _ => cases hr
theorem r_isTF {x y : V} {H : Hp} {Q : VK} : rIsTF x y H Q ↔ ∃ b r, y = .bl b ∧ isTF x b = some r ∧ Q (.bl r) H := Iff.rfl
theorem r_isi {K : PySem.W.Frag} {xs : List V} {H : Hp} {Q : VK} : rIsi K xs H Q ↔ ∃ (x c : V) (t u : Value) (b : Bool), xs = [x, c] ∧ ClsV c u ∧ TyX K H x t ∧ PySem.W.kitOne K t u = some b ∧ Q (.bl b) H := Iff.rfl
theorem r_gTup {K : PySem.W.Frag} {n : Nat} {t : TGs} {v : V} {σ : L2.St} {H : Hp} {Q : L2.St → Hp → Prop} : gTup K n t v σ H Q ↔ ∃ a xs, v = .ref a ∧ SqT K H a xs ∧ xs.length = n ∧ t xs σ H Q := Iff.rfl
theorem r_gNil {vs : List V} {σ : L2.St} {H : Hp} {Q : L2.St → Hp → Prop} : gNil vs σ H Q ↔ vs = [] ∧ Q σ H := Iff.rfl
theorem r_gCons {t : TG} {u : TGs} {vs : List V} {σ : L2.St} {H : Hp} {Q : L2.St → Hp → Prop} : gCons t u vs σ H Q ↔ ∃ v r, vs = v :: r ∧ t v σ H fun σ' H' => u r σ' H' Q := Iff.rfl
theorem st_start {N : List Str} {vs : List V} : start N vs = vs.map some ++ List.replicate (N.length - vs.length) none := rfl
theorem pe_gl {X : Cx} {x : Str} {v : V} {pos : Pos} (hg : Gl X x) (h : ∃ u, X.mg x = some u ∧ RelV v u) (hd : (x == ("__debug__" : Str)) = false := by decide) : PE X (.Name x pos) (tC v) := by
  obtain ⟨u, hm, r⟩ := h
  exact pe_glob hg hm r hd
def rMulS : R2 := fun x y H Q => ∃ z n, x = .str z ∧ y = .int n ∧ MulOk z n ∧ Q (.str (Txt.mul z n)) H
theorem op_mulS {X : Cx} : OpR X (binaryOp .Mult) rMulS := by
  intro pins s σ H x y v u Q I rx ry h
  obtain ⟨z, n, rfl, rfl, hm, q⟩ := h
  obtain ⟨t, rfl⟩ := rx
  obtain ⟨t', rfl⟩ := ry
  exact SB.mul hm fun t2 k => ⟨.str (Txt.mul z n), H, I.tok _, ⟨_, rfl⟩, q⟩
theorem ati {α : Type} {xs : List α} {z : Int} {j : Nat} {v : α} (e : z = (j : Int)) (h : xs[j]? = some v) : atI xs z = some v := by
  rw [e]
  exact atI_nat h
theorem ati_last {α : Type} {xs : List α} {v : α} (h : xs[xs.length - 1]? = some v) : atI xs (-1) = some v := by
  have hl : xs.length - 1 < xs.length := (List.getElem?_eq_some_iff.mp h).1
  have e : ixN xs.length (-1) = some (xs.length - 1) := by
    unfold ixN
    rw [if_neg (by omega), if_pos (by omega)]
    congr 1
    omega
  unfold atI
  rw [e]
  exact h
/-! ### pools: lists of three ints, which may be drawn from; all else is kept -/
def IsPool (o : HO) : Prop := ∃ a b c, o = .lst [.int a, .int b, .int c]
def PoolAt (H : Hp) (p : Addr) : Prop := ∃ o, H p = some o ∧ IsPool o
def Kp (H H' : Hp) : Prop := ∀ a o, H a = some o → (IsPool o → PoolAt H' a) ∧ (¬ IsPool o → H' a = some o)
theorem Kp.refl (H : Hp) : Kp H H := fun a o e => ⟨fun p => ⟨o, e, p⟩, fun _ => e⟩
theorem Kp.trans {H H1 H2 : Hp} (k : Kp H H1) (l : Kp H1 H2) : Kp H H2 := fun a o e => by
  obtain ⟨f, g⟩ := k a o e
  refine ⟨fun p => ?_, fun np => (l a o (g np)).2 np⟩
  obtain ⟨o', e', p'⟩ := f p
  exact (l a o' e').1 p'
theorem Kp.of {H H' : Hp} (e : ∀ a o, H a = some o → H' a = some o) : Kp H H' := fun a o h => ⟨fun p => ⟨o, e a o h, p⟩, fun _ => e a o h⟩
theorem Kp.new {H : Hp} {p : Addr} {o : HO} (h : H p = none) : Kp H (upd H p o) := Kp.of (Evl.Ex.new h)
theorem Kp.nw {H H1 : Hp} {p : Addr} {o : HO} (k : Kp H H1) (h : H1 p = none) : Kp H (upd H1 p o) := k.trans (Kp.new h)
theorem Kp.draw {H : Hp} {p : Addr} {a b c : Int} (h : PoolAt H p) : Kp H (upd H p (.lst [.int a, .int b, .int c])) := fun q o e => by
  by_cases hq : q = p
  · subst hq
    obtain ⟨o', e', p'⟩ := h
    rw [e] at e'
    cases e'
    exact ⟨fun _ => ⟨_, upd_same, _, _, _, rfl⟩, fun np => (np p').elim⟩
  · exact ⟨fun p' => ⟨o, by rw [upd_ne hq]; exact e, p'⟩, fun _ => by rw [upd_ne hq]; exact e⟩
theorem Kp.get {H H' : Hp} {a : Addr} {o : HO} (k : Kp H H') (h : H a = some o) (np : ¬ IsPool o) : H' a = some o := (k a o h).2 np
theorem Kp.pool {H H' : Hp} {p : Addr} (k : Kp H H') (h : PoolAt H p) : PoolAt H' p := by
  obtain ⟨o, e, q⟩ := h
  exact (k p o e).1 q
theorem Kp.free {H H' : Hp} {p : Addr} (k : Kp H H') (h : H' p = none) : H p = none := by
  cases e : H p with
  | none => rfl
  | some o =>
    by_cases hp : IsPool o
    · obtain ⟨o', e', _⟩ := (k p o e).1 hp
      rw [h] at e'
      cases e'
    · rw [(k p o e).2 hp] at h
      cases h
/-- an object that H does not know may change -/
theorem Kp.mut {H H' : Hp} {p : Addr} {o : HO} (k : Kp H H') (h : H p = none) : Kp H (upd H' p o) := fun a u e => by
  have ne := ne_of_none e h
  obtain ⟨f, g⟩ := k a u e
  refine ⟨fun q => ?_, fun nq => by rw [upd_ne ne]; exact g nq⟩
  obtain ⟨o', e', p'⟩ := f q
  exact ⟨o', by rw [upd_ne ne]; exact e', p'⟩
theorem np_frz {o : Obj} {u : HO} : ¬ IsPool (.frz o u) := fun ⟨_, _, _, e⟩ => by cases e
theorem np_tup {xs : List V} : ¬ IsPool (.tup xs) := fun ⟨_, _, _, e⟩ => by cases e
theorem np_len {xs : List V} (h : xs.length ≠ 3) : ¬ IsPool (.lst xs) := fun ⟨_, _, _, e⟩ => by
  cases e
  exact h rfl
theorem np_strs {ss : List Str} : ¬ IsPool (.lst (ss.map V.str)) := fun ⟨_, _, _, e⟩ => by
  cases ss with
  | nil => cases e
  | cons a r => cases e
theorem np_ref {a : Addr} {r : List V} : ¬ IsPool (.lst (.ref a :: r)) := fun ⟨_, _, _, e⟩ => by cases e
theorem np_bls {ss : List Bool} : ¬ IsPool (.lst (ss.map V.bl)) := fun ⟨_, _, _, e⟩ => by
  cases ss with
  | nil => cases e
  | cons a r => cases e
theorem Kp.seq {K : PySem.W.Frag} {H H' : Hp} {a : Addr} {xs : List V} (k : Kp H H') (np : ¬ IsPool (.lst xs)) (h : SqL K H a xs) : SqL K H' a xs := by
  rcases h with (h | ⟨o, h⟩) | h
  · exact .inl (.inl (k.get h np))
  · exact .inl (.inr ⟨o, k.get h np_frz⟩)
  · exact .inr h
theorem Kp.seqT {K : PySem.W.Frag} {H H' : Hp} {a : Addr} {xs : List V} (k : Kp H H') (h : SqT K H a xs) : SqT K H' a xs := by
  rcases h with (h | ⟨o, h⟩) | h
  · exact .inl (.inl (k.get h np_tup))
  · exact .inl (.inr ⟨o, k.get h np_frz⟩)
  · exact .inr h
theorem sign_inj {x c : Nat} : (({ cps := #[x] } : Str) = { cps := #[c] }) ↔ x = c := ⟨fun h => by
  injection h with h
  have := congrArg Array.toList h
  simpa using this, fun h => by rw [h]⟩
/-! ### comprehensions whose elements make, but do not change -/
section
variable {K : PySem.W.Frag} {σ : L2.St} {H : Hp} {Q : VK} {te tl : TE} {j : Nat}
open Evl (Ex)
/-- H without what stands at D -/
def hid (H : Hp) (D : Addr) : Hp := fun b => if b = D then none else H b
theorem hid_ne {H : Hp} {D b : Addr} (h : b ≠ D) : hid H D b = H b := if_neg h
theorem hid_some {H : Hp} {D b : Addr} {o : HO} (h : hid H D b = some o) : b ≠ D ∧ H b = some o := by
  by_cases e : b = D
  · unfold hid at h
    rw [if_pos e] at h
    cases h
  · rw [hid_ne e] at h
    exact ⟨e, h⟩
theorem hid_upd {H : Hp} {D : Addr} {o : HO} : hid (upd H D o) D = hid H D := by
  funext b
  unfold hid
  by_cases e : b = D
  · rw [if_pos e, if_pos e]
  · rw [if_neg e, if_neg e, upd_ne e]
theorem hid_ex {H : Hp} {D : Addr} : Ex (hid H D) H := fun _ _ h => (hid_some h).2
theorem take_snoc {α : Type} {l : List α} {i : Nat} {x : α} (h : l[i]? = some x) : l.take (i + 1) = l.take i ++ [x] := by
  rw [List.take_add_one, h]
  rfl
theorem yesI {σ2 : L2.St} {H2 : Hp} {A B : Hp → Prop} (h : A H2) : tYes σ2 H2 fun b H3 => if b = true then A H3 else B H3 := by
  show (if true = true then A H2 else B H2)
  rw [if_pos rfl]
  exact h
/-- the accumulated list, at turn i -/
def Acc (H : Hp) (D : Addr) (vs : List V) (i : Nat) (H' : Hp) : Prop := H D = none ∧ Ex H H' ∧ H' D = some (.lst (vs.take i))
theorem acc_turn {D : Addr} {vs : List V} {i : Nat} {H' : Hp} {y : V} {t : TE} {σ2 : L2.St} (a : Acc H D vs i H') (hy : vs[i]? = some y) (hv : vs.length ≤ 1000000) (he : ∀ QQ : VK, (∀ H2, Ex H' H2 → QQ y H2) → t σ2 H' QQ) :
    t σ2 H' fun y' H4 => ∃ acc, H4 D = some (.lst acc) ∧ acc.length < sizeLine ∧ Acc H D vs (i + 1) (upd H4 D (.lst (acc ++ [y']))) := by
  obtain ⟨a1, a2, a3⟩ := a
  refine he _ fun H2 e2 => ⟨vs.take i, e2 D _ a3, ?_, a1, Evl.Ex.mut (a2.trans e2) a1, ?_⟩
  · rw [List.length_take, sizeLine_eq]
    omega
  · rw [upd_same, take_snoc hy]
theorem acc_zero {D : Addr} {vs : List V} (hD : H D = none) : Acc H D vs 0 (upd H D (.lst [])) := ⟨hD, Ex.new hD, upd_same⟩
theorem acc_end {D : Addr} {vs : List V} {H' : Hp} (a : Acc H D vs vs.length H') (q : ∀ D H', H D = none → Ex H H' → H' D = some (.lst vs) → Q (.ref D) H') : Q (.ref D) H' := by
  obtain ⟨a1, a2, a3⟩ := a
  rw [List.take_length] at a3
  exact q D H' a1 a2 a3
/-- a comprehension, its source at hand; a for, its source at hand -/
def tLcB (J : It) (g : TG) (tt : TT) (te : TE) (vs : List Nat) (σ : L2.St) (H1 : Hp) (Q : VK) : Prop := ∀ D, H1 D = none → ∃ W : Nat → Nat → Hp → Prop, (∃ m, W 0 m (upd H1 D (.lst []))) ∧ ∀ i m H, W i m H →
  (J.stop i H ∧ Q (.ref D) H) ∨ (J.go i H ∧ ∃ Nx : Hp → Prop, (∀ H', Nx H' → ∃ m', m' < m ∧ W (i + 1) m' H') ∧ ∀ x H', J.yld i H x H' → g x (wipe σ vs) H' fun σ2 H2 => wipe σ2 vs = wipe σ vs ∧ tt σ2 H2 fun b H3 =>
    if b = true then te σ2 H3 fun y H4 => ∃ acc, H4 D = some (.lst acc) ∧ acc.length < sizeLine ∧ Nx (upd H4 D (.lst (acc ++ [y]))) else Nx H3)
def tForB (J : It) (g : TG) (tb : TS) (D : Ends) (σ : L2.St) (H1 : Hp) : Prop := ∃ W : Nat → Nat → L2.St → Hp → Prop, (∃ m, W 0 m σ H1) ∧ ∀ i m σ H, W i m σ H →
  (J.stop i H ∧ D.nx σ H) ∨ (J.go i H ∧ ∃ N : L2.St → Hp → Prop, (∀ σ' H', N σ' H' → ∃ m', m' < m ∧ W (i + 1) m' σ' H') ∧ ∀ x H', J.yld i H x H' → g x σ H' fun σ2 H2 => tb { D with nx := N, ct := N, bk := D.nx } σ2 H2)
theorem r_lc {wi : TI} {g : TG} {tt : TT} {vs : List Nat} : tLc wi g tt te vs σ H Q ↔ wi σ H fun J H1 => tLcB J g tt te vs σ H1 Q := Iff.rfl
theorem r_for {wi : TI} {g : TG} {tb : TS} {D : Ends} : tFor wi g tb D σ H ↔ wi σ H fun J H1 => tForB J g tb D σ H1 := Iff.rfl
theorem r_iStr {R : It → Hp → Prop} : iStr te σ H R ↔ te σ H fun v H1 => ∃ x, v = .str x ∧ R (Its x) H1 := Iff.rfl
theorem r_iList {R : It → Hp → Prop} : iList K te σ H R ↔ te σ H fun x H1 => ∃ a, x = .ref a ∧ (∃ xs, SqL K H1 a xs) ∧ R (Itl K a) H1 := Iff.rfl
theorem r_iTup {R : It → Hp → Prop} : iTup K te σ H R ↔ te σ H fun x H1 => ∃ a, x = .ref a ∧ (∃ xs, SqT K H1 a xs) ∧ R (Itt K a) H1 := Iff.rfl
theorem r_iRng1 {ta : TA} {R : It → Hp → Prop} : iRng1 ta σ H R ↔ ta σ H fun vs H1 => ∃ j : Int, vs = [.int j] ∧ -(2 ^ 62) ≤ j ∧ j < 2 ^ 62 ∧ R (Itr 0 j.toNat) H1 := Iff.rfl
theorem r_iRng2 {ta : TA} {R : It → Hp → Prop} : iRng2 ta σ H R ↔ ta σ H fun vs H1 => ∃ i j : Int, vs = [.int i, .int j] ∧ (-(2 ^ 62) ≤ i ∧ i < 2 ^ 62 ∧ -(2 ^ 62) ≤ j ∧ j < 2 ^ 62) ∧ R (Itr i (j - i).toNat) H1 := Iff.rfl
theorem r_iEnumK {ta : TA} {c : Int} {R : It → Hp → Prop} : iEnumK K c ta σ H R ↔ ta σ H fun vs H1 => ∃ a xs, vs = [.ref a] ∧ SqL K H1 a xs ∧ R (ItK K c a) H1 := Iff.rfl
/-- over a text -/
theorem lc_strE {z : Str} {ws : List Nat} (v : Nat → V) (hz : z.cps.size ≤ 1000000) (hw : ∀ x, wipe ((wipe σ ws).set j (some x)) ws = wipe σ ws)
    (he : ∀ (i c : Nat) H1, Ex H H1 → z.cps[i]? = some c → ∀ QQ : VK, (∀ H2, Ex H1 H2 → QQ (v c) H2) → te ((wipe σ ws).set j (some (.str ⟨#[c]⟩))) H1 QQ)
    (q : ∀ D H', H D = none → Ex H H' → H' D = some (.lst (z.cps.toList.map v)) → Q (.ref D) H') : tLcB (Its z) (gName j) tYes te ws σ H Q := by
  refine fun D hD => ⟨fun i m H' => m = z.cps.size - i ∧ i ≤ z.cps.size ∧ Acc H D (z.cps.toList.map v) i H', ⟨_, rfl, Nat.zero_le _, acc_zero hD⟩, ?_⟩
  rintro i m H' ⟨rfl, hi, a⟩
  by_cases hl : i < z.cps.size
  · refine .inr ⟨hl, Acc H D (z.cps.toList.map v) (i + 1), fun H2 a' => ⟨z.cps.size - (i + 1), by omega, rfl, by omega, a'⟩, fun x H2 y => ?_⟩
    obtain ⟨rfl, c, hc, rfl⟩ := y
    refine ⟨hw _, ?_⟩
    refine yesI ?_
    refine acc_turn (y := v c) a ?_ (by simpa using hz) (he i c _ a.2.1 hc)
    rw [List.getElem?_map, Array.getElem?_toList, hc]
    rfl
  · have e : i = z.cps.size := by omega
    subst e
    refine .inl ⟨Nat.le_refl _, acc_end (vs := z.cps.toList.map v) ?_ q⟩
    simpa using a
/-- over a list -/
theorem lc_listE {a : Addr} {xs : List V} {ws : List Nat} (v : Nat → V) (hx : SqL K H a xs) (hz : xs.length ≤ 1000000) (hw : ∀ x, wipe ((wipe σ ws).set j (some x)) ws = wipe σ ws)
    (he : ∀ (i : Nat) (x : V) H1, Ex H H1 → xs[i]? = some x → ∀ QQ : VK, (∀ H2, Ex H1 H2 → QQ (v i) H2) → te ((wipe σ ws).set j (some x)) H1 QQ)
    (q : ∀ D H', H D = none → Ex H H' → H' D = some (.lst ((List.range xs.length).map v)) → Q (.ref D) H') : tLcB (Itl K a) (gName j) tYes te ws σ H Q := by
  have hr : ∀ i, i < xs.length → ((List.range xs.length).map v)[i]? = some (v i) := fun i hi => by
    rw [List.getElem?_map, List.getElem?_range hi]
    rfl
  refine fun D hD => lc_list (xs := xs) (fun i H' => Acc H D ((List.range xs.length).map v) i H') (acc_zero hD) (fun i H' _ a' => Evl.ex_l a'.2.1 hx) (fun i x H' hi a' => ⟨hw _, ?_⟩) (fun H' a' => acc_end (vs := (List.range xs.length).map v) ?_ q)
  · refine yesI ?_
    exact acc_turn a' (hr i (List.getElem?_eq_some_iff.mp hi).1) (by simpa using hz) (he i x _ a'.2.1 hi)
  · rw [List.length_map, List.length_range]
    exact a'
/-- over range(n) -/
theorem lc_rangeE {n : Nat} {ws : List Nat} (v : Nat → V) (hn : n ≤ 1000000) (hw : ∀ x, wipe ((wipe σ ws).set j (some x)) ws = wipe σ ws)
    (he : ∀ (i : Nat) H1, Ex H H1 → i < n → ∀ QQ : VK, (∀ H2, Ex H1 H2 → QQ (v i) H2) → te ((wipe σ ws).set j (some (.int (i : Int)))) H1 QQ)
    (q : ∀ D H', H D = none → Ex H H' → H' D = some (.lst ((List.range n).map v)) → Q (.ref D) H') : tLcB (Itr 0 (n : Int).toNat) (gName j) tYes te ws σ H Q := by
  have hr : ∀ i, i < n → ((List.range n).map v)[i]? = some (v i) := fun i hi => by
    rw [List.getElem?_map, List.getElem?_range hi]
    rfl
  refine fun D hD => lc_range (lo := 0) (n := (n : Int).toNat) (fun i H' => Acc H D ((List.range n).map v) i H') (acc_zero hD) (fun i H' hi a' => ⟨hw _, ?_⟩) (fun H' a' => acc_end (vs := (List.range n).map v) ?_ q)
  · refine yesI ?_
    rw [Int.zero_add]
    have hi' : i < n := by omega
    exact acc_turn a' (hr i hi') (by simpa using hn) (he i _ a'.2.1 hi')
  · rw [List.length_map, List.length_range]
    have e : (n : Int).toNat = n := by omega
    rw [e] at a'
    exact a'
/-- over a list, the elements by what holds of them on new objects -/
theorem lc_listR {a : Addr} {xs : List V} {ws : List Nat} (R : Nat → V → Hp → Prop) (hR : ∀ i v H1 H2, R i v H1 → Ex H1 H2 → R i v H2) (hx : SqL K H a xs) (hz : xs.length ≤ 1000000) (hw : ∀ x, wipe ((wipe σ ws).set j (some x)) ws = wipe σ ws)
    (he : ∀ (i : Nat) (x : V) H1, Ex H H1 → xs[i]? = some x → ∀ QQ : VK, (∀ v H2 G, Ex H1 H2 → (∀ a o, G a = some o → H1 a = none ∧ H2 a = some o) → R i v G → QQ v H2) → te ((wipe σ ws).set j (some x)) H1 QQ)
    (q : ∀ D H' vs, H D = none → Ex H H' → vs.length = xs.length → (∀ i v, vs[i]? = some v → R i v (hid H' D)) → H' D = some (.lst vs) → Q (.ref D) H') : tLcB (Itl K a) (gName j) tYes te ws σ H Q := by
  refine fun D hD => lc_list (xs := xs) (fun i H' => H D = none ∧ Ex H H' ∧ ∃ vs : List V, H' D = some (.lst vs) ∧ vs.length = i ∧ ∀ k v, vs[k]? = some v → R k v (hid H' D)) ⟨hD, Ex.new hD, [], upd_same, rfl, fun k v h => by simp at h⟩
    (fun i H' _ a' => Evl.ex_l a'.2.1 hx) (fun i x H' hi a' => ⟨hw _, ?_⟩) (fun H' a' => ?_)
  · obtain ⟨a1, a2, vs, a3, a4, a5⟩ := a'
    refine yesI ?_
    refine he i x H' (a2) hi _ fun v H2 G e2 hG r2 => ⟨vs, e2 D _ a3, ?_, a1, Evl.Ex.mut (a2.trans e2) a1, vs ++ [v], upd_same, by rw [List.length_append, a4]; rfl, fun k u hk => ?_⟩
    · have := (List.getElem?_eq_some_iff.mp hi).1
      rw [sizeLine_eq]
      omega
    · rw [hid_upd]
      by_cases hkl : k < vs.length
      · rw [List.getElem?_append_left hkl] at hk
        refine hR _ _ _ _ (a5 k u hk) fun b o hb => ?_
        obtain ⟨hbD, hb'⟩ := hid_some hb
        rw [hid_ne hbD]
        exact e2 b o hb'
      · have hlt := (List.getElem?_eq_some_iff.mp hk).1
        rw [List.length_append] at hlt
        have hk' : k = i := by
          have : ([v] : List V).length = 1 := rfl
          omega
        subst hk'
        rw [List.getElem?_append_right (by omega), a4, Nat.sub_self] at hk
        have ev : v = u := Option.some.inj hk
        subst ev
        refine hR _ _ _ _ r2 fun b o hb => ?_
        obtain ⟨h1, h2⟩ := hG b o hb
        have hbD : b ≠ D := fun z => by
          rw [z, a3] at h1
          cases h1
        rw [hid_ne hbD]
        exact h2
  · obtain ⟨a1, a2, vs, a3, a4, a5⟩ := a'
    exact q D H' vs a1 a2 a4 a5 a3
/-! ### for loops, by an invariant over the turn -/
variable {g : TG} {tb : TS} {D : Ends}
theorem f_list {a : Addr} {xs : List V} (Pv : Nat → L2.St → Hp → Prop) (h0 : Pv 0 σ H) (hl : ∀ i σ H, i ≤ xs.length → Pv i σ H → SqL K H a xs)
    (hs : ∀ i x σ H, xs[i]? = some x → Pv i σ H → g x σ H fun σ2 H2 => tb { D with nx := Pv (i + 1), ct := Pv (i + 1), bk := D.nx } σ2 H2) (hd : ∀ σ H, Pv xs.length σ H → D.nx σ H) : tForB (Itl K a) g tb D σ H := for_list Pv h0 hl hs hd
theorem f_tup {a : Addr} {xs : List V} (Pv : Nat → L2.St → Hp → Prop) (h0 : Pv 0 σ H) (hl : ∀ i σ H, i ≤ xs.length → Pv i σ H → SqT K H a xs)
    (hs : ∀ i x σ H, xs[i]? = some x → Pv i σ H → g x σ H fun σ2 H2 => tb { D with nx := Pv (i + 1), ct := Pv (i + 1), bk := D.nx } σ2 H2) (hd : ∀ σ H, Pv xs.length σ H → D.nx σ H) : tForB (Itt K a) g tb D σ H := for_tup Pv h0 hl hs hd
theorem f_range {lo : Int} {n : Nat} (Pv : Nat → L2.St → Hp → Prop) (h0 : Pv 0 σ H)
    (hs : ∀ i σ H, i < n → Pv i σ H → g (.int (lo + i)) σ H fun σ2 H2 => tb { D with nx := Pv (i + 1), ct := Pv (i + 1), bk := D.nx } σ2 H2) (hd : ∀ σ H, Pv n σ H → D.nx σ H) : tForB (Itr lo n) g tb D σ H := for_range Pv h0 hs hd
theorem f_str {z : Str} (Pv : Nat → L2.St → Hp → Prop) (h0 : Pv 0 σ H)
    (hs : ∀ i c σ H, z.cps.toList[i]? = some c → Pv i σ H → g (.str ⟨#[c]⟩) σ H fun σ2 H2 => tb { D with nx := Pv (i + 1), ct := Pv (i + 1), bk := D.nx } σ2 H2) (hd : ∀ σ H, Pv z.cps.size σ H → D.nx σ H) : tForB (Its z) g tb D σ H := by
  refine ⟨fun i m σ H => m = z.cps.size - i ∧ i ≤ z.cps.size ∧ Pv i σ H, ⟨_, rfl, Nat.zero_le _, h0⟩, ?_⟩
  rintro i m σ H ⟨rfl, hi, p⟩
  by_cases hl : i < z.cps.size
  · refine .inr ⟨hl, Pv (i + 1), fun σ' H' p' => ⟨z.cps.size - (i + 1), by omega, rfl, by omega, p'⟩, fun x H' y => ?_⟩
    obtain ⟨rfl, c, hc, rfl⟩ := y
    exact hs i c σ _ (by rw [Array.getElem?_toList]; exact hc) p
  · have e : i = z.cps.size := by omega
    subst e
    exact .inl ⟨Nat.le_refl _, hd σ H p⟩
/-- for n, x in enumerate(list, start=c): the pair is a new tuple -/
theorem f_enumK {c : Int} {a : Addr} {xs : List V} (Pv : Nat → L2.St → Hp → Prop) (h0 : Pv 0 σ H) (hl : ∀ i σ H, i ≤ xs.length → Pv i σ H → SqL K H a xs)
    (hs : ∀ i x T σ H, xs[i]? = some x → Pv i σ H → H T = none → g (.ref T) σ (upd H T (.tup [.int (c + (i : Nat)), x])) fun σ2 H2 => tb { D with nx := Pv (i + 1), ct := Pv (i + 1), bk := D.nx } σ2 H2) (hd : ∀ σ H, Pv xs.length σ H → D.nx σ H) : tForB (ItK K c a) g tb D σ H := by
  refine ⟨fun i m σ H => m = xs.length - i ∧ i ≤ xs.length ∧ Pv i σ H, ⟨_, rfl, Nat.zero_le _, h0⟩, ?_⟩
  rintro i m σ H ⟨rfl, hi, p⟩
  have q := hl i σ H hi p
  by_cases hlt : i < xs.length
  · refine .inr ⟨⟨xs, xs[i], q, by simp [hlt]⟩, Pv (i + 1), fun σ' H' p' => ⟨xs.length - (i + 1), by omega, rfl, by omega, p'⟩, fun v H' y => ?_⟩
    obtain ⟨T, x, rfl, hT, rfl, hx⟩ := y
    exact hs i x T σ H (hx xs q) p hT
  · have e : i = xs.length := by omega
    subst e
    exact .inl ⟨⟨xs, q, rfl⟩, hd σ H p⟩
end
/-- a test of a text: it tells f, all that stood stands -/
def spB (f : Str → Bool) : Sp := fun vs H Q _ => ∃ z : Str, vs = [.str z] ∧ z.length ≤ 1000000 ∧ ∀ H', Same H H' → Q (.bl (f z)) H'
theorem sz6 {n : Nat} (h : n ≤ 1000000) : n ≤ sizeLine := by
  rw [sizeLine_eq]
  omega
theorem len_cps (z : Str) : z.cps.toList.length = z.length := Array.length_toList
theorem cps_cons {z : Str} (h : 1 ≤ z.length) : ∃ c r, z.cps.toList = c :: r := by
  have hl := len_cps z
  cases e : z.cps.toList with
  | nil =>
    rw [e] at hl
    have : z.length = 0 := hl.symm
    omega
  | cons c r => exact ⟨c, r, rfl⟩
theorem str_ext {x y : Str} (h : x.cps.toList = y.cps.toList) : x = y := by
  cases x with
  | mk a =>
    cases y with
    | mk b =>
      congr 1
      exact Array.toList_inj.mp h
/-- in a tuple of texts -/
theorem in_strs (z : Str) (l : List Str) : inV (.str z) (l.map V.str) = decide (z ∈ l) := by
  unfold inV
  rw [List.any_map]
  induction l with
  | nil => rfl
  | cons a r ih =>
    rw [List.any_cons, ih]
    by_cases e : z = a
    · subst e
      simp [eqV]
    · have : eqV (.str a) (.str z) = false := by simp [eqV, Ne.symm e]
      simp [this, e]
theorem all_flat (l : List Str) : (l.map V.str).all flatV = true := by
  rw [List.all_map]
  simp [flatV]
/-! ### the context's own parts; the cases of a match -/
section
variable {CX : CXT} {P : Program} {w : World} {K : PySem.W.Frag} {mg : Str → Option Value} {base : Heap} {N : List Str} {qual : Str} {scope : Scope} {f : Addr} {cd : Value} {A : Around} {outer : List Env} {s : Shared} {H : Hp} {E : XK}
theorem cx_K : (cxOf CX P w K mg base N qual scope f cd A outer s H E).K = K := rfl
theorem cx_N : (cxOf CX P w K mg base N qual scope f cd A outer s H E).N = N := rfl
theorem cx_sc : (cxOf CX P w K mg base N qual scope f cd A outer s H E).env.scope = scope := rfl
end
section
variable {N : List Str} {sc : Scope} {p : TPat} {b : TS} {u : TCs} {x : V} {D : Ends} {σ : L2.St} {H : Hp} {bs : List (Str × V)}
theorem r_stNil {k : L2.St → Prop} : stBs N sc [] σ k ↔ k σ := Iff.rfl
theorem tc_miss (h : ∀ Q : Bs → Hp → Prop, Q none H → p x H Q) (k : u x D σ H) : tcCons N sc p b u x D σ H := h _ k
theorem tc_hit (h : ∀ Q : Bs → Hp → Prop, Q (some bs) H → p x H Q) (k : stBs N sc bs σ fun σ' => b D σ' H) : tcCons N sc p b u x D σ H := h _ k
variable {K : PySem.W.Frag} {n : Nat} {t : TPats} {a : Addr} {xs : List V} {Q : Bs → Hp → Prop}
theorem seq_no (hS : SqL K H a xs) (h : xs.length ≠ n) (q : Q none H) : ptSeq K n t (.ref a) H Q := ⟨a, xs, rfl, hS, by rw [if_neg h]; exact q⟩
theorem seq_on (hS : SqL K H a xs) (h : xs.length = n) (q : t xs H Q) : ptSeq K n t (.ref a) H Q := ⟨a, xs, rfl, hS, by rw [if_pos h]; exact q⟩
theorem str_yes {z : Str} (q : Q (some []) H) : ptStr z (.str z) H Q := ⟨z, rfl, by rw [if_pos rfl]; exact q⟩
theorem str_no {y z : Str} (h : ¬ y = z) (q : Q none H) : ptStr z (.str y) H Q := ⟨y, rfl, by rw [if_neg h]; exact q⟩
theorem caps_nil {xs : List V} (q : Q (some []) H) : ptsNil xs H Q := q
theorem caps_str {z : Str} {u : TPats} {r : List V} (q : u r H fun o' H2 => match o' with | none => Q none H2 | some more => Q (some more) H2) : ptsCons (ptStr z) u (.str z :: r) H Q := ⟨_, r, rfl, str_yes q⟩
theorem caps_no {y z : Str} {u : TPats} {r : List V} (h : ¬ y = z) (q : Q none H) : ptsCons (ptStr z) u (.str y :: r) H Q := ⟨_, r, rfl, str_no h q⟩
theorem pf_yes {z : Str} {u : V → Hp → (Bool → Hp → Prop) → Prop} {QB : Bool → Hp → Prop} (q : QB true H) : pfCons (ptStr z) u (.str z) H QB := by
  refine ⟨z, rfl, ?_⟩
  rw [if_pos rfl]
  exact q
theorem pf_no {y z : Str} {u : V → Hp → (Bool → Hp → Prop) → Prop} {QB : Bool → Hp → Prop} (h : ¬ y = z) (q : u (.str y) H QB) : pfCons (ptStr z) u (.str y) H QB := by
  refine ⟨y, rfl, ?_⟩
  rw [if_neg h]
  exact q
theorem caps_or {b : Bool} {f : V → Hp → (Bool → Hp → Prop) → Prop} {u : TPats} {v : V} {r : List V} (h : ∀ QB : Bool → Hp → Prop, QB b H → f v H QB) (q : match b with | true => u r H (fun o' H2 => match o' with | none => Q none H2 | some more => Q (some more) H2) | false => Q none H) : ptsCons (ptOr f) u (v :: r) H Q := by
  refine ⟨v, r, rfl, h _ ?_⟩
  cases b with
  | true => exact q
  | false => exact q
theorem caps_cap {n : Str} {u : TPats} {v : V} {r : List V} (q : u r H fun o' H2 => match o' with | none => Q none H2 | some more => Q (some ((n, v) :: more)) H2) : ptsCons (ptCap (some n)) u (v :: r) H Q := ⟨_, r, rfl, q⟩
end
theorem sc_ss {a b : Str} : (scal (.str a) (.str b) = true) ↔ True := ⟨fun _ => trivial, fun _ => rfl⟩
theorem sc_ii {a b : Int} : (scal (.int a) (.int b) = true) ↔ True := ⟨fun _ => trivial, fun _ => rfl⟩
theorem sc_bb {a b : Bool} : (scal (.bl a) (.bl b) = true) ↔ True := ⟨fun _ => trivial, fun _ => rfl⟩
theorem sz2 {n : Nat} (h : n ≤ 1000000) : n + 2 ≤ sizeLine := by
  rw [sizeLine_eq]
  omega
theorem sz10 {n : Nat} (h : n ≤ 10000000) : n ≤ sizeLine := by
  rw [sizeLine_eq]
  omega
theorem sz10l {n : Nat} (h : n ≤ 10000000) : n < sizeLine := by
  rw [sizeLine_eq]
  omega
section
variable {α : Type} {x0 x1 x2 x3 x4 : α} {xs : List α}
theorem at0 : atI (x0 :: xs) 0 = some x0 := ati (j := 0) rfl rfl
theorem at1 : atI (x0 :: x1 :: xs) 1 = some x1 := ati (j := 1) rfl rfl
theorem at2 : atI (x0 :: x1 :: x2 :: xs) 2 = some x2 := ati (j := 2) rfl rfl
theorem at3 : atI (x0 :: x1 :: x2 :: x3 :: xs) 3 = some x3 := ati (j := 3) rfl rfl
theorem at4 : atI (x0 :: x1 :: x2 :: x3 :: x4 :: xs) 4 = some x4 := ati (j := 4) rfl rfl
end
theorem cutV_take {xs : List V} {k : Nat} : cutV xs none (some (k : Int)) = xs.take k := by
  unfold cutV
  rw [HT.sIx_none, HT.sIx_nat, List.drop_zero, Nat.sub_zero, ← List.take_eq_take_min]
theorem cutV_drop {xs : List V} {k : Nat} : cutV xs (some (k : Int)) none = xs.drop k := by
  unfold cutV
  rw [HT.sIx_none, HT.sIx_nat]
  by_cases h : k ≤ xs.length
  · rw [Nat.min_eq_left h]
    exact List.take_of_length_le (by rw [List.length_drop]; omega)
  · rw [Nat.min_eq_right (by omega), List.drop_eq_nil_of_le (Nat.le_refl _), List.drop_eq_nil_of_le (by omega), List.take_nil]
theorem cutV_init {xs : List V} : cutV xs none (some (-1)) = xs.dropLast := by
  unfold cutV
  have e : HT.sIx xs.length xs.length (some (-1)) = xs.length - 1 := by
    show (if (-1 : Int) < 0 then ((-1 : Int) + (xs.length : Int)).toNat else min (-1 : Int).toNat xs.length) = _
    rw [if_pos (by decide)]
    omega
  rw [HT.sIx_none, e, List.drop_zero, Nat.sub_zero, List.dropLast_eq_take]
theorem opq2 {α β : Sort _} (P : α → β → Prop) : ∃ M : α → β → Prop, ∀ a b, M a b ↔ P a b := ⟨P, fun _ _ => Iff.rfl⟩
theorem opq3 {α β γ : Sort _} (P : α → β → γ → Prop) : ∃ M : α → β → γ → Prop, ∀ a b c, M a b c ↔ P a b c := ⟨P, fun _ _ _ => Iff.rfl⟩
theorem len4 {α : Type} {l : List α} (h : l.length = 4) : ∃ a b c d, l = [a, b, c, d] := by
  match l, h with
  | [a, b, c, d], _ => exact ⟨a, b, c, d, rfl⟩
end Lv

namespace K89
open PySem PySem.Spec PyProof.Rows L2 Lv
/-! ### the signs of a text, names, numbers -/
abbrev sLet : Str := "abcdefghijklmnopqrstuvwxyz"
abbrev sDig : Str := "0123456789"
abbrev sBoth : Str := "abcdefghijklmnopqrstuvwxyz0123456789"
def isLet (c : Nat) : Bool := decide (c ∈ sLet.cps.toList)
def isDig (c : Nat) : Bool := decide (c ∈ sDig.cps.toList)
/-- as the program reads a name -/
def nameL (l : List Nat) : Bool := if 1 ≤ l.length ∧ l.length ≤ 8 then (match l with | c :: _ => isLet c && l.all fun c => isLet c || isDig c | [] => false) else false
def isNameP (z : Str) : Bool := if z = "street" then false else nameL z.cps.toList
def isPlaceP (z : Str) : Bool := if z = "street" then true else isNameP z
theorem name_len {z : Str} (h : ¬ (1 ≤ z.length ∧ z.length ≤ 8)) : isNameP z = false := by
  unfold isNameP nameL
  rw [len_cps, if_neg h]
  split <;> rfl
theorem name_cons {z : Str} {c : Nat} {r : List Nat} (h : ¬ z = "street") (h1 : 1 ≤ z.length ∧ z.length ≤ 8) (e : z.cps.toList = c :: r) : isNameP z = (isLet c && z.cps.toList.all fun c => isLet c || isDig c) := by
  unfold isNameP nameL
  rw [if_neg h, len_cps, if_pos h1]
  rw [e]
/-- as the program reads a number -/
def numL (l : List Nat) : Bool := if 1 ≤ l.length ∧ l.length ≤ 6 then (match l with | c :: r => if c = 48 ∧ r ≠ [] then false else l.all isDig | [] => false) else false
def isNumP (z : Str) : Bool := numL z.cps.toList
theorem num_len {z : Str} (h : ¬ (1 ≤ z.length ∧ z.length ≤ 6)) : isNumP z = false := by
  unfold isNumP numL
  rw [len_cps, if_neg h]
theorem num_cons {z : Str} {c : Nat} {r : List Nat} (h1 : 1 ≤ z.length ∧ z.length ≤ 6) (e : z.cps.toList = c :: r) : isNumP z = if c = 48 ∧ r ≠ [] then false else z.cps.toList.all isDig := by
  unfold isNumP numL
  rw [len_cps, if_pos h1]
  rw [e]
theorem zero_sign {c : Nat} : (({ cps := #[c] } : Str) = "0") ↔ c = 48 := sign_inj (x := c) (c := 48)
/-- as the law reads a place, a number -/
def inBoth (c : Nat) : Bool := decide (c ∈ sBoth.cps.toList)
def placeL (z : Str) : Bool := if z.length = 0 ∨ 8 < z.length then false else match z.cps.toList with | c :: r => isLet c && (c :: r).all inBoth | [] => false
def countL (z : Str) : Bool := if z.cps.toList.all isDig then (if z = "0" then true else (if 0 < z.length ∧ z.length < 7 then (match z.cps.toList with | c :: _ => !decide (c = 48) | [] => false) else false)) else false
theorem both_eq (c : Nat) : inBoth c = (isLet c || isDig c) := by
  unfold inBoth isLet isDig
  rw [← Bool.decide_or]
  congr 1
  apply propext
  rw [show sBoth.cps.toList = sLet.cps.toList ++ sDig.cps.toList by decide +kernel, List.mem_append]
theorem place_eq (z : Str) : placeL z = isPlaceP z := by
  unfold placeL isPlaceP
  have hb : (fun c => isLet c || isDig c) = inBoth := funext fun c => (both_eq c).symm
  by_cases e : z = "street"
  · subst e
    rw [if_pos rfl]
    decide +kernel
  · rw [if_neg e]
    by_cases h : z.length = 0 ∨ 8 < z.length
    · rw [if_pos h, name_len (by omega)]
    · rw [if_neg h]
      obtain ⟨c, r, ec⟩ := cps_cons (z := z) (by omega)
      rw [name_cons e (by omega) ec, hb, ec]
theorem count_eq (z : Str) : countL z = isNumP z := by
  unfold countL
  by_cases h : 1 ≤ z.length ∧ z.length ≤ 6
  · obtain ⟨c, r, ec⟩ := cps_cons h.1
    rw [num_cons h ec]
    by_cases ha : z.cps.toList.all isDig = true
    · rw [if_pos ha, ha]
      by_cases e0 : z = "0"
      · subst e0
        have : c :: r = [48] := ec.symm.trans rfl
        cases this
        simp
      · rw [if_neg e0, if_pos (by omega), ec]
        by_cases hc : c = 48
        · subst hc
          have hr : r ≠ [] := fun q => e0 (str_ext (by rw [ec, q]; rfl))
          simp [hr]
        · simp [hc]
    · have hf : z.cps.toList.all isDig = false := by simpa using ha
      rw [if_neg ha, hf]
      split <;> rfl
  · rw [num_len h]
    have e0 : z ≠ "0" := fun q => by
      subst q
      exact h (by decide)
    rw [if_neg e0, if_neg (show ¬ (0 < z.length ∧ z.length < 7) by omega)]
    split <;> rfl
/-! ### lines -/
def sp1 : Str := " "
/-- a deed, by its words -/
def deedW : List Str → Bool
  | [a, b] => if a = "cancel" ∨ a = "go" ∨ a = "bring" ∨ a = "take" then isPlaceP b else false
  | [a, b, c, d] => if a = "station" then isPlaceP b && isNumP c && isNumP d else if a = "book" then isPlaceP b && isPlaceP c && isPlaceP d else false
  | [a, b, c, d, e] => if a = "book" ∧ e = "unkept" then isPlaceP b && isPlaceP c && isPlaceP d else false
  | _ => false
def deedP (z : Str) : Bool := deedW (Txt.split z sp1)
/-- as the law does -/
def deedLW (ws : List Str) : Bool :=
  if ws[0]? = some ("station" : Str) then decide (ws.length = 4) && placeL (ws.getD 1 Str.empty) && countL (ws.getD 2 Str.empty) && countL (ws.getD 3 Str.empty)
  else
    let us := if ws[0]? = some ("book" : Str) ∧ ws.length = 5 ∧ ws[4]? = some ("unkept" : Str) then ws.take 4 else ws
    if (us.drop 1).all placeL then (if us[0]? = some ("book" : Str) then decide (us.length = 4) else decide (us.length = 2) && decide (us[0]? = some ("cancel" : Str) ∨ us[0]? = some ("go" : Str) ∨ us[0]? = some ("bring" : Str) ∨ us[0]? = some ("take" : Str))) else false
def deedL (z : Str) : Bool := deedLW (Txt.split z sp1)
theorem ne_station_cancel : ¬ ("station" : Str) = "cancel" := by decide
theorem ne_station_go : ¬ ("station" : Str) = "go" := by decide
theorem ne_station_bring : ¬ ("station" : Str) = "bring" := by decide
theorem ne_station_take : ¬ ("station" : Str) = "take" := by decide
theorem ne_book_cancel : ¬ ("book" : Str) = "cancel" := by decide
theorem ne_book_go : ¬ ("book" : Str) = "go" := by decide
theorem ne_book_bring : ¬ ("book" : Str) = "bring" := by decide
theorem ne_book_take : ¬ ("book" : Str) = "take" := by decide
theorem ne_station_book : ¬ ("station" : Str) = "book" := by decide
theorem ne_book_station : ¬ ("book" : Str) = "station" := by decide
theorem deed_eq (ws : List Str) : deedLW ws = deedW ws := by
  unfold deedLW
  match ws with
  | [] => simp [deedW]
  | [a] =>
    by_cases h1 : a = "station" <;> by_cases h2 : a = "book" <;> simp [deedW, h1, h2, ne_station_cancel, ne_station_go, ne_station_bring, ne_station_take, ne_book_cancel, ne_book_go, ne_book_bring, ne_book_take, ne_station_book, ne_book_station]
  | [a, b] =>
    by_cases h1 : a = "station"
    · subst h1
      simp [deedW, ne_station_cancel, ne_station_go, ne_station_bring, ne_station_take, ne_book_cancel, ne_book_go, ne_book_bring, ne_book_take, ne_station_book, ne_book_station]
    · by_cases h2 : a = "book"
      · subst h2
        simp [deedW, ne_station_cancel, ne_station_go, ne_station_bring, ne_station_take, ne_book_cancel, ne_book_go, ne_book_bring, ne_book_take, ne_station_book, ne_book_station]
      · simp [deedW, h1, h2, place_eq, ne_station_cancel, ne_station_go, ne_station_bring, ne_station_take, ne_book_cancel, ne_book_go, ne_book_bring, ne_book_take, ne_station_book, ne_book_station, Bool.and_comm]
  | [a, b, c] =>
    by_cases h1 : a = "station" <;> by_cases h2 : a = "book" <;> simp [deedW, h1, h2, ne_station_cancel, ne_station_go, ne_station_bring, ne_station_take, ne_book_cancel, ne_book_go, ne_book_bring, ne_book_take, ne_station_book, ne_book_station]
  | [a, b, c, d] =>
    by_cases h1 : a = "station"
    · simp [deedW, h1, place_eq, count_eq, ne_station_cancel, ne_station_go, ne_station_bring, ne_station_take, ne_book_cancel, ne_book_go, ne_book_bring, ne_book_take, ne_station_book, ne_book_station]
    · by_cases h2 : a = "book"
      · simp [deedW, h1, h2, place_eq, Bool.and_assoc, ne_station_cancel, ne_station_go, ne_station_bring, ne_station_take, ne_book_cancel, ne_book_go, ne_book_bring, ne_book_take, ne_station_book, ne_book_station]
      · simp [deedW, h1, h2, ne_station_cancel, ne_station_go, ne_station_bring, ne_station_take, ne_book_cancel, ne_book_go, ne_book_bring, ne_book_take, ne_station_book, ne_book_station]
  | [a, b, c, d, e] =>
    by_cases h1 : a = "station"
    · subst h1
      simp [deedW, ne_station_cancel, ne_station_go, ne_station_bring, ne_station_take, ne_book_cancel, ne_book_go, ne_book_bring, ne_book_take, ne_station_book, ne_book_station]
    · by_cases h2 : a = "book"
      · by_cases h3 : e = "unkept"
        · simp [deedW, h1, h2, h3, place_eq, Bool.and_assoc, ne_station_cancel, ne_station_go, ne_station_bring, ne_station_take, ne_book_cancel, ne_book_go, ne_book_bring, ne_book_take, ne_station_book, ne_book_station]
        · simp [deedW, h1, h2, h3, ne_station_cancel, ne_station_go, ne_station_bring, ne_station_take, ne_book_cancel, ne_book_go, ne_book_bring, ne_book_take, ne_station_book, ne_book_station]
      · simp [deedW, h1, h2, ne_station_cancel, ne_station_go, ne_station_bring, ne_station_take, ne_book_cancel, ne_book_go, ne_book_bring, ne_book_take, ne_station_book, ne_book_station]
  | a :: b :: c :: d :: e :: f :: r =>
    by_cases h1 : a = "station" <;> by_cases h2 : a = "book" <;> simp [deedW, h1, h2, ne_station_cancel, ne_station_go, ne_station_bring, ne_station_take, ne_book_cancel, ne_book_go, ne_book_bring, ne_book_take, ne_station_book, ne_book_station]
/-! ### the lines that are no deeds -/
def PLAIN : List Str := ["undo", "redo", "send", "guard free", "guard wise", "guard sure", "ask verdict", "ask able", "ask wise", "ask sure", "ask left", "ask worst", "ask ends", "ask riders"]
def OPEN : List Str := ["all", "if unfair", "if sure", "if open", "if dead", "again 0", "again 1", "again 2", "again 3", "again 4", "again 5", "again 6", "again 7", "again 8", "again 9"]
def QS : List Str := ["verdict", "able", "wise", "sure", "left", "worst", "ends", "riders"]
def MV : List Str := ["undo", "redo", "send", "guard free", "guard wise", "guard sure"]
def VD : List Str := ["unfair", "sure", "open", "dead"]
/-- the program's -/
def plainP (z : Str) : Bool := if cutS z none (some 4) = "ask " then decide (cutS z (some 4) none ∈ QS) else decide (z ∈ MV)
def againP (z : Str) : Bool := if cutS z none (some 6) = "again " then (if z.length = 7 then (z.cps.toList.drop 6).any isDig else false) else false
def openP (z : Str) : Bool := if cutS z none (some 3) = "if " then decide (cutS z (some 3) none ∈ VD) else if z = "all" then true else againP z
/-- the law's -/
def plainLW (z : Str) (ws : List Str) : Bool :=
  if ws[0]? = some ("ask" : Str) ∧ ws.length = 2 then decide (ws.getD 1 Str.empty ∈ QS)
  else if ws[0]? = some ("guard" : Str) ∧ ws.length = 2 then decide (ws.getD 1 Str.empty ∈ (["free", "wise", "sure"] : List Str))
  else decide (z ∈ (["undo", "redo", "send"] : List Str))
def plainL (z : Str) : Bool := plainLW z (Txt.split z sp1)
def openLW (z : Str) (ws : List Str) : Bool :=
  if ws[0]? = some ("if" : Str) ∧ ws.length = 2 then decide (ws.getD 1 Str.empty ∈ (["sure", "open", "dead", "unfair"] : List Str))
  else if ws[0]? = some ("again" : Str) ∧ ws.length = 2 then decide (ws.getD 1 Str.empty ∈ (["0", "1", "2", "3", "4", "5", "6", "7", "8", "9"] : List Str))
  else decide (z = "all")
def openL (z : Str) : Bool := openLW z (Txt.split z sp1)
theorem cut_front {z : Str} {k : Nat} : (cutS z none (some (k : Int))).cps.toList = z.cps.toList.take k := by
  unfold cutS
  rw [HT.sIx_none, HT.sIx_nat, List.drop_zero, Nat.sub_zero]
  rw [← len_cps, ← List.take_eq_take_min]
theorem cut_back {z : Str} {k : Nat} : (cutS z (some (k : Int)) none).cps.toList = z.cps.toList.drop k := by
  unfold cutS
  rw [HT.sIx_none, HT.sIx_nat, ← len_cps]
  show List.take _ (List.drop (min k z.cps.toList.length) z.cps.toList) = _
  by_cases h : k ≤ z.cps.toList.length
  · rw [Nat.min_eq_left h]
    exact List.take_of_length_le (by rw [List.length_drop]; omega)
  · rw [Nat.min_eq_right (by omega), List.drop_eq_nil_of_le (Nat.le_refl _), List.drop_eq_nil_of_le (by omega)]
    simp
theorem cut_at {z : Str} {k : Nat} {p : Str} (h : cutS z none (some (k : Int)) = p) : z = p ++ cutS z (some (k : Int)) none := by
  refine str_ext ?_
  have e : (p ++ cutS z (some (k : Int)) none).cps.toList = p.cps.toList ++ (cutS z (some (k : Int)) none).cps.toList := by
    show (p.cps ++ (cutS z (some (k : Int)) none).cps).toList = _
    rw [Array.toList_append]
  rw [e, cut_back, ← h, cut_front, List.take_append_drop]
theorem bool_ext {a b : Bool} (h1 : a = true → b = true) (h2 : b = true → a = true) : a = b := by
  cases a <;> cases b <;> simp_all
theorem two_words {ws : List Str} {a : Str} (h : ws[0]? = some a ∧ ws.length = 2) : ∃ b, ws = [a, b] ∧ ws.getD 1 Str.empty = b := by
  match ws, h with
  | [x, b], ⟨h, _⟩ =>
    have e : x = a := Option.some.inj h
    subst e
    exact ⟨b, rfl, rfl⟩
theorem join_sp (z : Str) : Str.join sp1 (Txt.split z sp1) = z := PySem.StrLaws.join_split z sp1
theorem plainP_eq (z : Str) : plainP z = decide (z ∈ PLAIN) := by
  refine bool_ext (fun h => ?_) fun h => ?_
  · unfold plainP at h
    split at h
    · rename_i e
      rw [cut_at (k := 4) e]
      have hq := of_decide_eq_true h
      have all : ∀ q ∈ QS, ("ask " : Str) ++ q ∈ PLAIN := by decide +kernel
      exact decide_eq_true (all _ hq)
    · have all : ∀ q ∈ MV, q ∈ PLAIN := by decide +kernel
      exact decide_eq_true (all _ (of_decide_eq_true h))
  · have all : ∀ q ∈ PLAIN, plainP q = true := by decide +kernel
    exact all z (of_decide_eq_true h)
theorem plainL_eq (z : Str) : plainL z = decide (z ∈ PLAIN) := by
  refine bool_ext (fun h => ?_) fun h => ?_
  · unfold plainL plainLW at h
    have hj := join_sp z
    split at h
    · rename_i e
      obtain ⟨b, e1, e2⟩ := two_words e
      rw [e2] at h
      rw [e1] at hj
      have all : ∀ q ∈ QS, Str.join sp1 ["ask", q] ∈ PLAIN := by decide +kernel
      rw [← hj]
      exact decide_eq_true (all _ (of_decide_eq_true h))
    · split at h
      · rename_i e
        obtain ⟨b, e1, e2⟩ := two_words e
        rw [e2] at h
        rw [e1] at hj
        have all : ∀ q ∈ (["free", "wise", "sure"] : List Str), Str.join sp1 ["guard", q] ∈ PLAIN := by decide +kernel
        rw [← hj]
        exact decide_eq_true (all _ (of_decide_eq_true h))
      · have all : ∀ q ∈ (["undo", "redo", "send"] : List Str), q ∈ PLAIN := by decide +kernel
        exact decide_eq_true (all _ (of_decide_eq_true h))
  · have all : ∀ q ∈ PLAIN, plainL q = true := by decide +kernel
    exact all z (of_decide_eq_true h)
theorem againP_mem {z : Str} (h : againP z = true) : z ∈ OPEN := by
  unfold againP at h
  split at h
  · rename_i e
    split at h
    · rename_i e7
      have e1 := cut_at (k := 6) e
      have hl : (z.cps.toList.drop 6).length = 1 := by rw [List.length_drop, len_cps, e7]
      obtain ⟨d, hd⟩ : ∃ d, z.cps.toList.drop 6 = [d] := List.length_eq_one_iff.mp hl
      rw [hd] at h
      have hd' : isDig d = true := by simpa using h
      have hz : cutS z (some ((6 : Nat) : Int)) none = ⟨#[d]⟩ := str_ext (by rw [cut_back, hd])
      rw [e1, hz]
      have all : ∀ d ∈ sDig.cps.toList, ("again " : Str) ++ (⟨#[d]⟩ : Str) ∈ OPEN := by decide +kernel
      exact all d (of_decide_eq_true hd')
    · cases h
  · cases h
theorem openP_eq (z : Str) : openP z = decide (z ∈ OPEN) := by
  refine bool_ext (fun h => ?_) fun h => ?_
  · unfold openP at h
    split at h
    · rename_i e
      rw [cut_at (k := 3) e]
      have all : ∀ q ∈ VD, ("if " : Str) ++ q ∈ OPEN := by decide +kernel
      exact decide_eq_true (all _ (of_decide_eq_true h))
    · split at h
      · rename_i e
        subst e
        decide +kernel
      · exact decide_eq_true (againP_mem h)
  · have all : ∀ q ∈ OPEN, openP q = true := by decide +kernel
    exact all z (of_decide_eq_true h)
theorem openL_eq (z : Str) : openL z = decide (z ∈ OPEN) := by
  refine bool_ext (fun h => ?_) fun h => ?_
  · unfold openL openLW at h
    have hj := join_sp z
    split at h
    · rename_i e
      obtain ⟨b, e1, e2⟩ := two_words e
      rw [e2] at h
      rw [e1] at hj
      have all : ∀ q ∈ (["sure", "open", "dead", "unfair"] : List Str), Str.join sp1 ["if", q] ∈ OPEN := by decide +kernel
      rw [← hj]
      exact decide_eq_true (all _ (of_decide_eq_true h))
    · split at h
      · rename_i e
        obtain ⟨b, e1, e2⟩ := two_words e
        rw [e2] at h
        rw [e1] at hj
        have all : ∀ q ∈ (["0", "1", "2", "3", "4", "5", "6", "7", "8", "9"] : List Str), Str.join sp1 ["again", q] ∈ OPEN := by decide +kernel
        rw [← hj]
        exact decide_eq_true (all _ (of_decide_eq_true h))
      · have e := of_decide_eq_true h
        subst e
        decide +kernel
  · have all : ∀ q ∈ OPEN, openL q = true := by decide +kernel
    exact all z (of_decide_eq_true h)
end K89

namespace K89
open PySem PySem.Spec PyProof.Rows L2 Lv
abbrev Pg : Program := PySem.Challenge.pw_ridesonce_k89_scripts_are_read
def topS (i : Nat) : Stmt := Pg.main.body.getD i (.Pass ⟨0, 0, 0, 0⟩)
abbrev s_is_name : Stmt := topS 9
theorem sc_is_name : FnScope ["word", "sign"] ["word"] (defScope s_is_name) := ⟨rfl, rfl, rfl, by decide +kernel, rfl, by decide +kernel, by decide +kernel⟩
abbrev s_is_place : Stmt := topS 10
theorem sc_is_place : FnScope ["word"] ["word"] (defScope s_is_place) := ⟨rfl, rfl, rfl, by decide +kernel, rfl, by decide +kernel, by decide +kernel⟩
abbrev s_is_number : Stmt := topS 11
theorem sc_is_number : FnScope ["word", "sign"] ["word"] (defScope s_is_number) := ⟨rfl, rfl, rfl, by decide +kernel, rfl, by decide +kernel, by decide +kernel⟩
abbrev s_lines_of : Stmt := topS 12
theorem sc_lines_of : FnScope ["text", "pieces", "rows", "piece"] ["text"] (defScope s_lines_of) := ⟨rfl, rfl, rfl, by decide +kernel, rfl, by decide +kernel, by decide +kernel⟩
abbrev s_is_deed : Stmt := topS 14
theorem sc_is_deed : FnScope ["line", "words", "name", "docks", "bikes", "start", "goal"] ["line"] (defScope s_is_deed) := ⟨rfl, rfl, rfl, by decide +kernel, rfl, by decide +kernel, by decide +kernel⟩
abbrev s_is_plain : Stmt := topS 22
theorem sc_is_plain : FnScope ["line"] ["line"] (defScope s_is_plain) := ⟨rfl, rfl, rfl, by decide +kernel, rfl, by decide +kernel, by decide +kernel⟩
abbrev s_is_again : Stmt := topS 23
theorem sc_is_again : FnScope ["line"] ["line"] (defScope s_is_again) := ⟨rfl, rfl, rfl, by decide +kernel, rfl, by decide +kernel, by decide +kernel⟩
abbrev s_is_opening : Stmt := topS 24
theorem sc_is_opening : FnScope ["line"] ["line"] (defScope s_is_opening) := ⟨rfl, rfl, rfl, by decide +kernel, rfl, by decide +kernel, by decide +kernel⟩
abbrev s_read_script : Stmt := topS 25
theorem sc_read_script : FnScope ["text", "lists", "openings", "number", "line", "ended", "in_all", "opening", "commands"] ["text"] (defScope s_read_script) := ⟨rfl, rfl, rfl, by decide +kernel, rfl, by decide +kernel, by decide +kernel⟩
abbrev s__law_cell : Stmt := topS 27
theorem sc__law_cell : FnScope ["script", "k"] ["script", "k"] (defScope s__law_cell) := ⟨rfl, rfl, rfl, by decide +kernel, rfl, by decide +kernel, by decide +kernel⟩
abbrev s__law_pool : Stmt := topS 28
theorem sc__law_pool : FnScope ["cell", "size"] ["cell"] (defScope s__law_pool) := ⟨rfl, rfl, rfl, by decide +kernel, rfl, by decide +kernel, by decide +kernel⟩
abbrev s__law_take : Stmt := topS 29
theorem sc__law_take : FnScope ["pool", "limit", "digit", "first", "second", "third"] ["pool", "limit"] (defScope s__law_take) := ⟨rfl, rfl, rfl, by decide +kernel, rfl, by decide +kernel, by decide +kernel⟩
abbrev s__law_names : Stmt := topS 30
theorem sc__law_names : FnScope ["pool", "count", "way", "seed", "stems", "signs", "names", "k", "name", "size", "place", "j"] ["pool", "count"] (defScope s__law_names) := ⟨rfl, rfl, rfl, by decide +kernel, rfl, by decide +kernel, by decide +kernel⟩
abbrev s__law_same : Stmt := topS 31
theorem sc__law_same : FnScope ["actual", "expected", "k", "key"] ["actual", "expected"] (defScope s__law_same) := ⟨rfl, rfl, rfl, by decide +kernel, rfl, by decide +kernel, by decide +kernel⟩
abbrev s__law_number : Stmt := topS 32
theorem sc__law_number : FnScope ["pool"] ["pool"] (defScope s__law_number) := ⟨rfl, rfl, rfl, by decide +kernel, rfl, by decide +kernel, by decide +kernel⟩
abbrev s__law_deed_line : Stmt := topS 33
theorem sc__law_deed_line : FnScope ["pool", "names", "way", "one", "two"] ["pool", "names"] (defScope s__law_deed_line) := ⟨rfl, rfl, rfl, by decide +kernel, rfl, by decide +kernel, by decide +kernel⟩
abbrev s__law_plain_line : Stmt := topS 34
theorem sc__law_plain_line : FnScope ["pool", "lines"] ["pool"] (defScope s__law_plain_line) := ⟨rfl, rfl, rfl, by decide +kernel, rfl, by decide +kernel, by decide +kernel⟩
abbrev s__law_opening_line : Stmt := topS 35
theorem sc__law_opening_line : FnScope ["pool", "way"] ["pool"] (defScope s__law_opening_line) := ⟨rfl, rfl, rfl, by decide +kernel, rfl, by decide +kernel, by decide +kernel⟩
abbrev s__law_drawn_lines : Stmt := topS 36
theorem sc__law_drawn_lines : FnScope ["pool", "names", "lines", "opened", "k", "way", "within", "line"] ["pool", "names"] (defScope s__law_drawn_lines) := ⟨rfl, rfl, rfl, by decide +kernel, rfl, by decide +kernel, by decide +kernel⟩
abbrev s__law_odd_line : Stmt := topS 37
theorem sc__law_odd_line : FnScope ["pool", "lines"] ["pool"] (defScope s__law_odd_line) := ⟨rfl, rfl, rfl, by decide +kernel, rfl, by decide +kernel, by decide +kernel⟩
abbrev s__law_spoilt : Stmt := topS 38
theorem sc__law_spoilt : FnScope ["pool", "lines", "way", "at", "most"] ["pool", "lines"] (defScope s__law_spoilt) := ⟨rfl, rfl, rfl, by decide +kernel, rfl, by decide +kernel, by decide +kernel⟩
abbrev s__law_is_place : Stmt := topS 39
theorem sc__law_is_place : FnScope ["word", "sign"] ["word"] (defScope s__law_is_place) := ⟨rfl, rfl, rfl, by decide +kernel, rfl, by decide +kernel, by decide +kernel⟩
abbrev s__law_is_count : Stmt := topS 40
theorem sc__law_is_count : FnScope ["word", "sign"] ["word"] (defScope s__law_is_count) := ⟨rfl, rfl, rfl, by decide +kernel, rfl, by decide +kernel, by decide +kernel⟩
abbrev s__law_is_deed : Stmt := topS 41
theorem sc__law_is_deed : FnScope ["line", "words", "word"] ["line"] (defScope s__law_is_deed) := ⟨rfl, rfl, rfl, by decide +kernel, rfl, by decide +kernel, by decide +kernel⟩
abbrev s__law_is_plain : Stmt := topS 42
theorem sc__law_is_plain : FnScope ["line", "words"] ["line"] (defScope s__law_is_plain) := ⟨rfl, rfl, rfl, by decide +kernel, rfl, by decide +kernel, by decide +kernel⟩
abbrev s__law_is_opening : Stmt := topS 43
theorem sc__law_is_opening : FnScope ["line", "words"] ["line"] (defScope s__law_is_opening) := ⟨rfl, rfl, rfl, by decide +kernel, rfl, by decide +kernel, by decide +kernel⟩
abbrev s__law_first_wrong : Stmt := topS 44
theorem sc__law_first_wrong : FnScope ["text", "pieces", "opened", "k", "line", "last", "within"] ["text"] (defScope s__law_first_wrong) := ⟨rfl, rfl, rfl, by decide +kernel, rfl, by decide +kernel, by decide +kernel⟩
abbrev s__law_from_the_back : Stmt := topS 45
theorem sc__law_from_the_back : FnScope ["text", "lists", "lines", "k", "line"] ["text"] (defScope s__law_from_the_back) := ⟨rfl, rfl, rfl, by decide +kernel, rfl, by decide +kernel, by decide +kernel⟩
abbrev s__law_read : Stmt := topS 46
theorem sc__law_read : FnScope ["text", "told", "e"] ["text"] (defScope s__law_read) := ⟨rfl, rfl, rfl, by decide +kernel, rfl, by decide +kernel, by decide +kernel⟩
abbrev s_law : Stmt := topS 47
theorem sc_law : FnScope ["script", "pool", "pool_here", "names", "lines", "k", "text", "wrong", "told", "command", "line"] ["script"] (defScope s_law) := ⟨rfl, rfl, rfl, by decide +kernel, rfl, by decide +kernel, by decide +kernel⟩
/-- what the top has left -/
structure Txt (K : PySem.W.Frag) (mg : Str → Option Value) where
  a_is_name : Addr
  d_is_name : FuncData
  f_is_name : Fun K "is_name" "is_name" s_is_name a_is_name d_is_name
  g_is_name : mg "is_name" = some (.ref a_is_name)
  b_is_name : Binds K d_is_name ["word"] []
  a_is_place : Addr
  d_is_place : FuncData
  f_is_place : Fun K "is_place" "is_place" s_is_place a_is_place d_is_place
  g_is_place : mg "is_place" = some (.ref a_is_place)
  b_is_place : Binds K d_is_place ["word"] []
  a_is_number : Addr
  d_is_number : FuncData
  f_is_number : Fun K "is_number" "is_number" s_is_number a_is_number d_is_number
  g_is_number : mg "is_number" = some (.ref a_is_number)
  b_is_number : Binds K d_is_number ["word"] []
  a_lines_of : Addr
  d_lines_of : FuncData
  f_lines_of : Fun K "lines_of" "lines_of" s_lines_of a_lines_of d_lines_of
  g_lines_of : mg "lines_of" = some (.ref a_lines_of)
  b_lines_of : Binds K d_lines_of ["text"] []
  a_is_deed : Addr
  d_is_deed : FuncData
  f_is_deed : Fun K "is_deed" "is_deed" s_is_deed a_is_deed d_is_deed
  g_is_deed : mg "is_deed" = some (.ref a_is_deed)
  b_is_deed : Binds K d_is_deed ["line"] []
  a_is_plain : Addr
  d_is_plain : FuncData
  f_is_plain : Fun K "is_plain" "is_plain" s_is_plain a_is_plain d_is_plain
  g_is_plain : mg "is_plain" = some (.ref a_is_plain)
  b_is_plain : Binds K d_is_plain ["line"] []
  a_is_again : Addr
  d_is_again : FuncData
  f_is_again : Fun K "is_again" "is_again" s_is_again a_is_again d_is_again
  g_is_again : mg "is_again" = some (.ref a_is_again)
  b_is_again : Binds K d_is_again ["line"] []
  a_is_opening : Addr
  d_is_opening : FuncData
  f_is_opening : Fun K "is_opening" "is_opening" s_is_opening a_is_opening d_is_opening
  g_is_opening : mg "is_opening" = some (.ref a_is_opening)
  b_is_opening : Binds K d_is_opening ["line"] []
  a_read_script : Addr
  d_read_script : FuncData
  f_read_script : Fun K "read_script" "read_script" s_read_script a_read_script d_read_script
  g_read_script : mg "read_script" = some (.ref a_read_script)
  b_read_script : Binds K d_read_script ["text"] []
  a__law_cell : Addr
  d__law_cell : FuncData
  f__law_cell : Fun K "_law_cell" "_law_cell" s__law_cell a__law_cell d__law_cell
  g__law_cell : mg "_law_cell" = some (.ref a__law_cell)
  b__law_cell : Binds K d__law_cell ["script", "k"] []
  a__law_pool : Addr
  d__law_pool : FuncData
  f__law_pool : Fun K "_law_pool" "_law_pool" s__law_pool a__law_pool d__law_pool
  g__law_pool : mg "_law_pool" = some (.ref a__law_pool)
  b__law_pool : Binds K d__law_pool ["cell"] []
  a__law_take : Addr
  d__law_take : FuncData
  f__law_take : Fun K "_law_take" "_law_take" s__law_take a__law_take d__law_take
  g__law_take : mg "_law_take" = some (.ref a__law_take)
  b__law_take : Binds K d__law_take ["pool", "limit"] []
  a__law_names : Addr
  d__law_names : FuncData
  f__law_names : Fun K "_law_names" "_law_names" s__law_names a__law_names d__law_names
  g__law_names : mg "_law_names" = some (.ref a__law_names)
  b__law_names : Binds K d__law_names ["pool", "count"] []
  a__law_same : Addr
  d__law_same : FuncData
  f__law_same : Fun K "_law_same" "_law_same" s__law_same a__law_same d__law_same
  g__law_same : mg "_law_same" = some (.ref a__law_same)
  b__law_same : Binds K d__law_same ["actual", "expected"] []
  a__law_number : Addr
  d__law_number : FuncData
  f__law_number : Fun K "_law_number" "_law_number" s__law_number a__law_number d__law_number
  g__law_number : mg "_law_number" = some (.ref a__law_number)
  b__law_number : Binds K d__law_number ["pool"] []
  a__law_deed_line : Addr
  d__law_deed_line : FuncData
  f__law_deed_line : Fun K "_law_deed_line" "_law_deed_line" s__law_deed_line a__law_deed_line d__law_deed_line
  g__law_deed_line : mg "_law_deed_line" = some (.ref a__law_deed_line)
  b__law_deed_line : Binds K d__law_deed_line ["pool", "names"] []
  a__law_plain_line : Addr
  d__law_plain_line : FuncData
  f__law_plain_line : Fun K "_law_plain_line" "_law_plain_line" s__law_plain_line a__law_plain_line d__law_plain_line
  g__law_plain_line : mg "_law_plain_line" = some (.ref a__law_plain_line)
  b__law_plain_line : Binds K d__law_plain_line ["pool"] []
  a__law_opening_line : Addr
  d__law_opening_line : FuncData
  f__law_opening_line : Fun K "_law_opening_line" "_law_opening_line" s__law_opening_line a__law_opening_line d__law_opening_line
  g__law_opening_line : mg "_law_opening_line" = some (.ref a__law_opening_line)
  b__law_opening_line : Binds K d__law_opening_line ["pool"] []
  a__law_drawn_lines : Addr
  d__law_drawn_lines : FuncData
  f__law_drawn_lines : Fun K "_law_drawn_lines" "_law_drawn_lines" s__law_drawn_lines a__law_drawn_lines d__law_drawn_lines
  g__law_drawn_lines : mg "_law_drawn_lines" = some (.ref a__law_drawn_lines)
  b__law_drawn_lines : Binds K d__law_drawn_lines ["pool", "names"] []
  a__law_odd_line : Addr
  d__law_odd_line : FuncData
  f__law_odd_line : Fun K "_law_odd_line" "_law_odd_line" s__law_odd_line a__law_odd_line d__law_odd_line
  g__law_odd_line : mg "_law_odd_line" = some (.ref a__law_odd_line)
  b__law_odd_line : Binds K d__law_odd_line ["pool"] []
  a__law_spoilt : Addr
  d__law_spoilt : FuncData
  f__law_spoilt : Fun K "_law_spoilt" "_law_spoilt" s__law_spoilt a__law_spoilt d__law_spoilt
  g__law_spoilt : mg "_law_spoilt" = some (.ref a__law_spoilt)
  b__law_spoilt : Binds K d__law_spoilt ["pool", "lines"] []
  a__law_is_place : Addr
  d__law_is_place : FuncData
  f__law_is_place : Fun K "_law_is_place" "_law_is_place" s__law_is_place a__law_is_place d__law_is_place
  g__law_is_place : mg "_law_is_place" = some (.ref a__law_is_place)
  b__law_is_place : Binds K d__law_is_place ["word"] []
  a__law_is_count : Addr
  d__law_is_count : FuncData
  f__law_is_count : Fun K "_law_is_count" "_law_is_count" s__law_is_count a__law_is_count d__law_is_count
  g__law_is_count : mg "_law_is_count" = some (.ref a__law_is_count)
  b__law_is_count : Binds K d__law_is_count ["word"] []
  a__law_is_deed : Addr
  d__law_is_deed : FuncData
  f__law_is_deed : Fun K "_law_is_deed" "_law_is_deed" s__law_is_deed a__law_is_deed d__law_is_deed
  g__law_is_deed : mg "_law_is_deed" = some (.ref a__law_is_deed)
  b__law_is_deed : Binds K d__law_is_deed ["line"] []
  a__law_is_plain : Addr
  d__law_is_plain : FuncData
  f__law_is_plain : Fun K "_law_is_plain" "_law_is_plain" s__law_is_plain a__law_is_plain d__law_is_plain
  g__law_is_plain : mg "_law_is_plain" = some (.ref a__law_is_plain)
  b__law_is_plain : Binds K d__law_is_plain ["line"] []
  a__law_is_opening : Addr
  d__law_is_opening : FuncData
  f__law_is_opening : Fun K "_law_is_opening" "_law_is_opening" s__law_is_opening a__law_is_opening d__law_is_opening
  g__law_is_opening : mg "_law_is_opening" = some (.ref a__law_is_opening)
  b__law_is_opening : Binds K d__law_is_opening ["line"] []
  a__law_first_wrong : Addr
  d__law_first_wrong : FuncData
  f__law_first_wrong : Fun K "_law_first_wrong" "_law_first_wrong" s__law_first_wrong a__law_first_wrong d__law_first_wrong
  g__law_first_wrong : mg "_law_first_wrong" = some (.ref a__law_first_wrong)
  b__law_first_wrong : Binds K d__law_first_wrong ["text"] []
  a__law_from_the_back : Addr
  d__law_from_the_back : FuncData
  f__law_from_the_back : Fun K "_law_from_the_back" "_law_from_the_back" s__law_from_the_back a__law_from_the_back d__law_from_the_back
  g__law_from_the_back : mg "_law_from_the_back" = some (.ref a__law_from_the_back)
  b__law_from_the_back : Binds K d__law_from_the_back ["text"] []
  a__law_read : Addr
  d__law_read : FuncData
  f__law_read : Fun K "_law_read" "_law_read" s__law_read a__law_read d__law_read
  g__law_read : mg "_law_read" = some (.ref a__law_read)
  b__law_read : Binds K d__law_read ["text"] []
  a_law : Addr
  d_law : FuncData
  f_law : Fun K "law" "law" s_law a_law d_law
  g_law : mg "law" = some (.ref a_law)
  b_law : Binds K d_law ["script"] []
  z_len : mg "len" = none
  z_abs : mg "abs" = none
  z_int : mg "int" = none
  z_str : mg "str" = none
  z_all : mg "all" = none
  z_isinstance : mg "isinstance" = none
  z_range : mg "range" = none
  z_enumerate : mg "enumerate" = none
  z_tuple : mg "tuple" = none
  z_list : mg "list" = none
  z_dict : mg "dict" = none
  z_bool : mg "bool" = none
  c_LETTERS : ∃ u, mg "LETTERS" = some u ∧ RelV (.str "abcdefghijklmnopqrstuvwxyz") u
  c_DIGITS : ∃ u, mg "DIGITS" = some u ∧ RelV (.str "0123456789") u
  c_STREET : ∃ u, mg "STREET" = some u ∧ RelV (.str "street") u
  c_LONGEST_NAME : ∃ u, mg "LONGEST_NAME" = some u ∧ RelV (.int 8) u
  c_LONGEST_NUMBER : ∃ u, mg "LONGEST_NUMBER" = some u ∧ RelV (.int 6) u
  c_MOST_DEEP : ∃ u, mg "MOST_DEEP" = some u ∧ RelV (.int 4) u
  c_ALL : ∃ u, mg "ALL" = some u ∧ RelV (.str "all") u
  c_END : ∃ u, mg "END" = some u ∧ RelV (.str "end") u
  t_VERDICTS : Addr
  c_VERDICTS : ∃ u, mg "VERDICTS" = some u ∧ RelV (.ref t_VERDICTS) u
  s_VERDICTS : ∃ (o : Obj) (its : Array Value) (n : Nat), K.lookup t_VERDICTS = some o ∧ o.cls = .type "tuple" ∧ o.data = .seq its n ∧ its.size ≤ sizeLine ∧ Vals [.str "unfair", .str "sure", .str "open", .str "dead"] its.toList
  t_MOVES : Addr
  c_MOVES : ∃ u, mg "MOVES" = some u ∧ RelV (.ref t_MOVES) u
  s_MOVES : ∃ (o : Obj) (its : Array Value) (n : Nat), K.lookup t_MOVES = some o ∧ o.cls = .type "tuple" ∧ o.data = .seq its n ∧ its.size ≤ sizeLine ∧ Vals [.str "undo", .str "redo", .str "send", .str "guard free", .str "guard wise", .str "guard sure"] its.toList
  t_QUESTIONS : Addr
  c_QUESTIONS : ∃ u, mg "QUESTIONS" = some u ∧ RelV (.ref t_QUESTIONS) u
  s_QUESTIONS : ∃ (o : Obj) (its : Array Value) (n : Nat), K.lookup t_QUESTIONS = some o ∧ o.cls = .type "tuple" ∧ o.data = .seq its n ∧ its.size ≤ sizeLine ∧ Vals [.str "verdict", .str "able", .str "wise", .str "sure", .str "left", .str "worst", .str "ends", .str "riders"] its.toList
  C_BadLine : Addr
  i_BadLine : Addr
  e_BadLine : Addr
  k_BadLine : Addr
  x_BadLine : PySem.XRaw.XTxt Pg K mg "BadLine" "BadLine.__init__" "line" C_BadLine i_BadLine e_BadLine k_BadLine "a line of the text is wrong"
  m_BadLine : PySem.W.exmOne K (.ref C_BadLine) (.ref C_BadLine) = some true
  y_BadLine : L2.ExcC K C_BadLine
  C_RidesError : Addr
  g_RidesError : mg "RidesError" = some (.ref C_RidesError)
  u_BadLine : PySem.W.kitOne K (.ref C_BadLine) (.ref C_RidesError) = some true
end K89

namespace K89
open PySem PySem.Spec PyProof.Rows L2 Lv
local macro_rules | `(tactic| walk_at "rd") => `(tactic| simp only [spB, r_seq, r_next, r_break, r_cont, r_asg, r_name, r_drop, r_ret, r_retN, r_if, r_var, r_c, r_op, r_un, r_test, r_B, r_and, r_or, r_not, r_andV, r_orV, r_notV, r_ifE, r_nil, r_cons, r_tup, r_lst, r_call, r_CB, r_BM, r_BM0, r_M1, r_M0, r_Sl, r_part, r_nopart, r_chain, r_I0, r_I, r_eq, r_ne, r_U, r_ixL, r_ixT, r_ixS, r_slL, r_slS, r_append, r_pop, r_sub, r_setL, r_cat, r_rep, r_in, r_strs, r_match, r_lc, r_for, r_iStr, r_iList, r_iTup, r_iRng1, r_iRng2, r_iEnumK, sign_inj, r_all, r_tStrs, r_gTup, r_gCons, r_gNil, wipe, cx_K, cx_N, cx_sc, r_stNil, st_start, List.set_cons_zero, List.set_cons_succ, List.getElem?_cons_zero, List.getElem?_cons_succ, Option.some.injEq, V.int.injEq, V.str.injEq, V.bl.injEq, V.ref.injEq, exists_eq_left', exists_eq_left, exists_eq', exists_and_left, true_and, and_true, exists_eq, exists_const, List.cons_append, List.nil_append, List.append_nil, List.cons.injEq, List.map_cons, List.map_nil, List.length_cons, List.length_nil, Nat.reduceAdd, Nat.reduceSub, List.replicate_succ, List.replicate_zero, Bool.not_eq_true', Bool.not_true, Bool.not_false, Bool.false_eq_true, if_true, if_false, ite_true, ite_false, decide_eq_true_eq, sc_ss, sc_ii, sc_bb, reduceCtorEq])
local macro_rules | `(tactic| walk_at "v") => `(tactic| refine ⟨_, rfl, ?_⟩)
local macro_rules | `(tactic| walk_at "sz") => `(tactic| first | exact Nat.le_trans (by assumption) (by decide) | exact Nat.zero_le _ | (rw [sizeLine_eq]; simp <;> omega) | omega)

section
variable {w : World} {K : PySem.W.Frag} {mg : Str → Option Value} {base : Heap}
theorem ok_is_name (T : Txt K mg) : FnOk Pg w K mg base CX0 1 T.a_is_name T.d_is_name ["word"] (spB isNameP) := by
  refine T.f_is_name.ok sc_is_name (fun vs H Q E h => ?_) (fun cdv A outer s H vs Q E hr h => ?_)
  · obtain ⟨z, rfl, _⟩ := h
    rfl
  · obtain ⟨z, rfl, hz, q⟩ := h
    refine ⟨_, (pss_cons (ps_if (PW.pt (pw_or (pt_cmpR op_eq (pv 0) (pe_gl rfl T.c_STREET) (nomark _)) (pw_or1 (pt_not (pt_chain op_le op_le pe_int (pe_callB call_len_str (by rfl) T.z_len PySem.boot_len (pa_cons (pv 0) pa_nil)) (pe_gl rfl T.c_LONGEST_NAME))))))
  (pss_one (ps_ret pe_bl))
  pss_nil)
  (pss_cons (ps_if (pt_cmpR op_notIn_sign (pe_ix ix_str (pv 0) pe_int (fun _ _ => rfl)) (pe_gl rfl T.c_LETTERS) rfl)
  (pss_one (ps_ret pe_bl))
  pss_nil)
  (pss_one (ps_ret (pe_callB (cr_all rfl) (by rfl) T.z_all (by decide +kernel) (pa_cons (pe_lc (own := [("sign", 1)]) (g := gName 1) (tt := tYes) (by rfl) sc_is_name.nd (pi_str (pv 0)) (blkOk_by (own := [("sign", 1)]) (N := ["word", "sign"]) (sc := defScope s_is_name) (by decide +kernel)) (fun _ _ _ _ _ => (pg_name (i := 1) sc_is_name.nd rfl (Or.inl rfl))) (fun _ _ _ _ _ => pts_nil) (fun _ _ _ _ _ => (pe_or (pe_cmpR op_in_sign (pv 1) (pe_gl rfl T.c_LETTERS) rfl) (pe_one (pe_cmpR op_in_sign (pv 1) (pe_gl rfl T.c_DIGITS) rfl))))) pa_nil)))))), ?_⟩
    walk_at "rd"
    have hs : z.length ≤ sizeLine := sz6 hz
    have q0 : ∀ b, isNameP z = b → Q (.bl b) H := fun b e => e ▸ q H (Same.refl H)
    refine ite2 (fun h => ?_) (fun h => ⟨hs, ?_⟩)
    · exact q0 _ (by unfold isNameP; rw [if_pos h])
    refine ite2 (fun h1 => ite2 (fun h2 => ?_) (fun h2 => ⟨hs, ?_⟩)) (fun h1 => ?_)
    · exact q0 _ (name_len (by have := of_decide_eq_false h2; omega))
    · have h3 : (z.length : Int) ≤ 8 := by simpa using h2
      obtain ⟨c, r, e⟩ := cps_cons (z := z) (by omega)
      have en := name_cons h (by omega) e
      refine ⟨c, ati (xs := z.cps.toList) (v := c) (j := 0) rfl (by rw [e]; rfl), ?_⟩
      refine ite2 (fun h4 => ?_) (fun h4 => ?_)
      · exact q0 _ (by rw [en, show isLet c = false from h4]; rfl)
      · refine lc_strE (fun c => .bl (isLet c || isDig c)) (by show z.length ≤ _; omega) (fun _ => rfl) (fun i c H1 e1 hc QQ qq => ?_) fun D H' hD e' hD' => ?_
        · walk_at "rd"
          have := qq H1 (Evl.Ex.refl H1)
          refine ite2 (fun h5 => ?_) (fun h5 => ?_)
          · rw [show isLet c = true from decide_eq_true h5] at this
            exact this
          · rw [show isLet c = false from decide_eq_false h5] at this
            exact this
        · refine ⟨D, rfl, z.cps.toList.map (fun c => isLet c || isDig c), SqL.of ?_, ?_⟩
          · rw [hD', List.map_map]
            rfl
          · have e2 : isNameP z = (z.cps.toList.map (fun c => isLet c || isDig c)).all id := by
              rw [en, show isLet c = true by simpa [isLet] using h4, List.all_map]
              rfl
            rw [← e2]
            exact q H' e'
    · exact q0 _ (name_len (by omega))
theorem ok_is_place (T : Txt K mg) : FnOk Pg w K mg base CX0 2 T.a_is_place T.d_is_place ["word"] (spB isPlaceP) := by
  have G_is_name := ok_is_name (w := w) (base := base) T
  refine T.f_is_place.ok sc_is_place (fun vs H Q E h => ?_) (fun cdv A outer s H vs Q E hr h => ?_)
  · obtain ⟨z, rfl, _⟩ := h
    rfl
  · obtain ⟨z, rfl, hz, q⟩ := h
    refine ⟨_, (pss_one (ps_ret (pe_or (pe_cmpR op_eq (pv 0) (pe_gl rfl T.c_STREET) (nomark _)) (pe_one (pe_call G_is_name (hr.mono (by omega)) (by rfl) T.g_is_name T.f_is_name.kp T.b_is_name .nil pass0 (pa_cons (pv 0) pa_nil)))))), ?_⟩
    walk_at "rd"
    have q0 : ∀ b, isPlaceP z = b → Q (.bl b) H := fun b e => e ▸ q H (Same.refl H)
    refine ite2 (fun h => ?_) (fun h => ⟨hz, fun H' e => ?_⟩)
    · exact q0 _ (by unfold isPlaceP; rw [if_pos h])
    · have := q H' e
      rw [show isPlaceP z = isNameP z by unfold isPlaceP; rw [if_neg h]] at this
      exact this
theorem dig_all {z : Str} {X : Cx} {H : Hp} {Q : VK} (hz : z.length ≤ 1000000) (q : ∀ H', Same H H' → Q (.bl (z.cps.toList.all isDig)) H') :
    tLcB (Its z) (gName 1) tYes (tOp (fun x y H Q => ∃ c, x = V.str { cps := #[c] } ∧ ∃ x, y = V.str x ∧ Q (V.bl (decide (c ∈ x.cps.toList))) H) (tVar 1) (tC (V.str sDig))) [1] [some (V.str z), none] H fun x H1 => ∃ a, x = V.ref a ∧ ∃ x, SqL X.K H1 a (List.map V.bl x) ∧ Q (V.bl (x.all id)) H1 := by
  refine lc_strE (fun c => .bl (isDig c)) hz (fun _ => rfl) (fun i c H1 e1 hc QQ qq => ?_) fun D H' hD e' hD' => ?_
  · walk_at "rd"
    exact qq H1 (Evl.Ex.refl H1)
  · refine ⟨D, rfl, z.cps.toList.map isDig, SqL.of ?_, ?_⟩
    · rw [hD', List.map_map]
      rfl
    · rw [List.all_map]
      exact q H' e'
theorem ok_is_number (T : Txt K mg) : FnOk Pg w K mg base CX0 1 T.a_is_number T.d_is_number ["word"] (spB isNumP) := by
  refine T.f_is_number.ok sc_is_number (fun vs H Q E h => ?_) (fun cdv A outer s H vs Q E hr h => ?_)
  · obtain ⟨z, rfl, _⟩ := h
    rfl
  · obtain ⟨z, rfl, hz, q⟩ := h
    refine ⟨_, (pss_cons (ps_if (pt_not (pt_chain op_le op_le pe_int (pe_callB call_len_str (by rfl) T.z_len PySem.boot_len (pa_cons (pv 0) pa_nil)) (pe_gl rfl T.c_LONGEST_NUMBER)))
  (pss_one (ps_ret pe_bl))
  pss_nil)
  (pss_cons (ps_if (PW.pt (pw_and (pt_cmpR op_eq (pe_ix ix_str (pv 0) pe_int (fun _ _ => rfl)) pe_str (nomark _)) (pw_and1 (pt_cmpR op_gt (pe_callB call_len_str (by rfl) T.z_len PySem.boot_len (pa_cons (pv 0) pa_nil)) pe_int (nomark _)))))
  (pss_one (ps_ret pe_bl))
  pss_nil)
  (pss_one (ps_ret (pe_callB (cr_all rfl) (by rfl) T.z_all (by decide +kernel) (pa_cons (pe_lc (own := [("sign", 1)]) (g := gName 1) (tt := tYes) (by rfl) sc_is_number.nd (pi_str (pv 0)) (blkOk_by (own := [("sign", 1)]) (N := ["word", "sign"]) (sc := defScope s_is_number) (by decide +kernel)) (fun _ _ _ _ _ => (pg_name (i := 1) sc_is_number.nd rfl (Or.inl rfl))) (fun _ _ _ _ _ => pts_nil) (fun _ _ _ _ _ => (pe_cmpR op_in_sign (pv 1) (pe_gl rfl T.c_DIGITS) rfl))) pa_nil)))))), ?_⟩
    walk_at "rd"
    have hs : z.length ≤ sizeLine := sz6 hz
    have q0 : ∀ b, isNumP z = b → Q (.bl b) H := fun b e => e ▸ q H (Same.refl H)
    refine ⟨hs, ite2 (fun h1 => ite2 (fun h2 => ?_) (fun h2 => ⟨hs, ?_⟩)) (fun h1 => q0 _ (num_len (by omega)))⟩
    · exact q0 _ (num_len (by have := of_decide_eq_false h2; omega))
    · have h3 : (z.length : Int) ≤ 6 := by simpa using h2
      obtain ⟨c, r, e⟩ := cps_cons (z := z) (by omega)
      have en := num_cons (z := z) (by omega) e
      have hl := len_cps z
      rw [e, List.length_cons] at hl
      have qd : (¬ (c = 48 ∧ r ≠ [])) → ∀ H', Same H H' → Q (.bl (z.cps.toList.all isDig)) H' := fun hn H' e' => by
        have := q H' e'
        rw [en, if_neg hn] at this
        exact this
      refine ⟨c, ati (xs := z.cps.toList) (v := c) (j := 0) rfl (by rw [e]; rfl), ite2 (fun h4 => ⟨hs, ite2 (fun h5 => ?_) (fun h5 => ?_)⟩) (fun h4 => ?_)⟩
      · exact q0 _ (by
          rw [en, if_pos ⟨zero_sign.mp h4, fun z' => by
            rw [z'] at hl
            simp only [List.length_nil] at hl
            omega⟩])
      · exact dig_all (X := cxOf CX0 Pg w K mg base [] Str.empty (defScope s_is_number) T.a_is_number cdv A outer s H E) hz (qd fun ⟨_, hr'⟩ => hr' (by
          cases r with
          | nil => rfl
          | cons x y =>
            rw [List.length_cons] at hl
            omega))
      · exact dig_all (X := cxOf CX0 Pg w K mg base [] Str.empty (defScope s_is_number) T.a_is_number cdv A outer s H E) hz (qd fun ⟨h6, _⟩ => h4 (zero_sign.mpr h6))
theorem ok__law_is_place (T : Txt K mg) : FnOk Pg w K mg base CX0 1 T.a__law_is_place T.d__law_is_place ["word"] (spB placeL) := by
  refine T.f__law_is_place.ok sc__law_is_place (fun vs H Q E h => ?_) (fun cdv A outer s H vs Q E hr h => ?_)
  · obtain ⟨z, rfl, _⟩ := h
    rfl
  · obtain ⟨z, rfl, hz, q⟩ := h
    refine ⟨_, (pss_cons (ps_if (PW.pt (pw_or (pt_cmpR op_eq (pe_callB call_len_str (by rfl) T.z_len PySem.boot_len (pa_cons (pv 0) pa_nil)) pe_int (nomark _)) (pw_or (pt_cmpR op_gt (pe_callB call_len_str (by rfl) T.z_len PySem.boot_len (pa_cons (pv 0) pa_nil)) pe_int (nomark _)) (pw_or1 (pt_cmpR op_notIn_sign (pe_ix ix_str (pv 0) pe_int (fun _ _ => rfl)) pe_str rfl)))))
  (pss_one (ps_ret pe_bl))
  pss_nil)
  (pss_cons (ps_for PassesOwn.never rfl (pi_str (pv 0)) (pg_name (i := 1) sc__law_is_place.nd rfl (Or.inl rfl))
  (pss_one (ps_if (pt_cmpR op_notIn_sign (pv 1) pe_str rfl)
  (pss_one (ps_ret pe_bl))
  pss_nil)))
  (pss_one (ps_ret pe_bl)))), ?_⟩
    walk_at "rd"
    have hs : z.length ≤ sizeLine := sz6 hz
    have q0 : ∀ b, placeL z = b → Q (.bl b) H := fun b e => e ▸ q H (Same.refl H)
    refine ⟨hs, ite2 (fun h1 => ?_) (fun h1 => ⟨hs, ite2 (fun h2 => ?_) (fun h2 => ⟨hs, ?_⟩)⟩)⟩
    · exact q0 _ (by unfold placeL; rw [if_pos (by omega)])
    · exact q0 _ (by unfold placeL; rw [if_pos (by omega)])
    · obtain ⟨c, r, e⟩ := cps_cons (z := z) (by omega)
      have en : placeL z = (isLet c && z.cps.toList.all inBoth) := by
        unfold placeL
        rw [if_neg (by omega), e]
      refine ⟨c, ati (xs := z.cps.toList) (v := c) (j := 0) rfl (by rw [e]; rfl), ite2 (fun h3 => ?_) (fun h3 => ?_)⟩
      · exact q0 _ (by rw [en, show isLet c = false from h3]; rfl)
      · have hlet : isLet c = true := by simpa [isLet] using h3
        refine f_str (fun i σ H' => (∃ x, σ = [some (.str z), x]) ∧ H' = H ∧ (z.cps.toList.take i).all inBoth = true) ⟨⟨_, rfl⟩, rfl, by simp⟩ (fun i c' σ H' hc p => ?_) (fun σ H' p => ?_)
        · obtain ⟨⟨x, rfl⟩, rfl, pa⟩ := p
          walk_at "rd"
          refine ite2 (fun h4 => ?_) (fun h4 => ?_)
          · have hf : z.cps.toList.all inBoth = false := by
              rw [List.all_eq_false]
              exact ⟨c', List.mem_of_getElem? hc, by show ¬ inBoth c' = true; rw [show inBoth c' = false from h4]; decide⟩
            exact q0 _ (by rw [en, hf, Bool.and_false])
          · rw [take_snoc hc, List.all_append, pa]
            have : inBoth c' = true := by simpa [inBoth] using h4
            simp [this]
        · obtain ⟨⟨x, rfl⟩, rfl, pa⟩ := p
          walk_at "rd"
          have hall : z.cps.toList.all inBoth = true := by
            rw [← pa, List.take_of_length_le (Nat.le_of_eq Array.length_toList)]
          exact q0 _ (by rw [en, hall, hlet]; rfl)
theorem ok__law_is_count (T : Txt K mg) : FnOk Pg w K mg base CX0 1 T.a__law_is_count T.d__law_is_count ["word"] (spB countL) := by
  refine T.f__law_is_count.ok sc__law_is_count (fun vs H Q E h => ?_) (fun cdv A outer s H vs Q E hr h => ?_)
  · obtain ⟨z, rfl, _⟩ := h
    rfl
  · obtain ⟨z, rfl, hz, q⟩ := h
    refine ⟨_, (pss_cons (ps_for PassesOwn.never rfl (pi_str (pv 0)) (pg_name (i := 1) sc__law_is_count.nd rfl (Or.inl rfl))
  (pss_one (ps_if (pt_cmpR op_notIn_sign (pv 1) pe_str rfl)
  (pss_one (ps_ret pe_bl))
  pss_nil)))
  (pss_one (ps_ret (pe_or (pe_cmpR op_eq (pv 0) pe_str (nomark _)) (pe_one (pe_and (pe_cmpR op_lt pe_int (pe_callB call_len_str (by rfl) T.z_len PySem.boot_len (pa_cons (pv 0) pa_nil)) (nomark _)) (pe_and (pe_cmpR op_lt (pe_callB call_len_str (by rfl) T.z_len PySem.boot_len (pa_cons (pv 0) pa_nil)) pe_int (nomark _)) (pe_one (pe_cmpR op_ne (pe_ix ix_str (pv 0) pe_int (fun _ _ => rfl)) pe_str (nomark _)))))))))), ?_⟩
    walk_at "rd"
    have hs : z.length ≤ sizeLine := sz6 hz
    have q0 : ∀ b, countL z = b → Q (.bl b) H := fun b e => e ▸ q H (Same.refl H)
    refine f_str (fun i σ H' => (∃ x, σ = [some (.str z), x]) ∧ H' = H ∧ (z.cps.toList.take i).all isDig = true) ⟨⟨_, rfl⟩, rfl, by simp⟩ (fun i c' σ H' hc p => ?_) (fun σ H' p => ?_)
    · obtain ⟨⟨x, rfl⟩, rfl, pa⟩ := p
      walk_at "rd"
      refine ite2 (fun h4 => ?_) (fun h4 => ?_)
      · have hf : z.cps.toList.all isDig = false := by
          rw [List.all_eq_false]
          exact ⟨c', List.mem_of_getElem? hc, by show ¬ isDig c' = true; rw [show isDig c' = false from h4]; decide⟩
        exact q0 _ (by unfold countL; rw [hf]; rfl)
      · rw [take_snoc hc, List.all_append, pa]
        have : isDig c' = true := by simpa [isDig] using h4
        simp [this]
    · obtain ⟨⟨x, rfl⟩, rfl, pa⟩ := p
      have hall : z.cps.toList.all isDig = true := by
        rw [← pa, List.take_of_length_le (Nat.le_of_eq Array.length_toList)]
      walk_at "rd"
      refine ite2 (fun h1 => ?_) (fun h1 => ⟨hs, ite2 (fun h2 => ⟨hs, ite2 (fun h3 => ⟨hs, ?_⟩) (fun h3 => ?_)⟩) (fun h2 => ?_)⟩)
      · exact q0 _ (by unfold countL; rw [if_pos hall, if_pos h1])
      · obtain ⟨c, r, e⟩ := cps_cons (z := z) (by omega)
        refine ⟨c, ati (xs := z.cps.toList) (v := c) (j := 0) rfl (by rw [e]; rfl), q0 _ ?_⟩
        unfold countL
        rw [if_pos hall, if_neg h1, if_pos (by omega), e]
        show (!decide (c = 48)) = _
        congr 1
        apply decide_eq_decide.mpr
        exact zero_sign.symm
      · exact q0 _ (by unfold countL; rw [if_pos hall, if_neg h1, if_neg (by omega)])
      · exact q0 _ (by unfold countL; rw [if_pos hall, if_neg h1, if_neg (by omega)])
theorem ok_is_again (T : Txt K mg) : FnOk Pg w K mg base CX0 1 T.a_is_again T.d_is_again ["line"] (spB againP) := by
  refine T.f_is_again.ok sc_is_again (fun vs H Q E h => ?_) (fun cdv A outer s H vs Q E hr h => ?_)
  · obtain ⟨z, rfl, _⟩ := h
    rfl
  · obtain ⟨z, rfl, hz, q⟩ := h
    refine ⟨_, (pss_one (ps_ret (pe_and (pe_cmpR op_eq (pe_slice sl_str (pv 0) po_none (po_some pe_int)) pe_str (nomark _)) (pe_and (pe_cmpR op_eq (pe_callB call_len_str (by rfl) T.z_len PySem.boot_len (pa_cons (pv 0) pa_nil)) pe_int (nomark _)) (pe_one (pe_cmpR op_in_sign (pe_ix ix_str (pv 0) pe_int (fun _ _ => rfl)) (pe_gl rfl T.c_DIGITS) rfl)))))), ?_⟩
    walk_at "rd"
    have hs : z.length ≤ sizeLine := sz6 hz
    have q0 : ∀ b, againP z = b → Q (.bl b) H := fun b e => e ▸ q H (Same.refl H)
    refine ⟨hs, ite2 (fun h1 => ⟨hs, ite2 (fun h2 => ⟨hs, ?_⟩) (fun h2 => ?_)⟩) (fun h1 => ?_)⟩
    · have h7 : z.length = 7 := by omega
      have hl : (z.cps.toList.drop 6).length = 1 := by rw [List.length_drop, len_cps, h7]
      obtain ⟨d, hd⟩ : ∃ d, z.cps.toList.drop 6 = [d] := List.length_eq_one_iff.mp hl
      refine ⟨d, ati (xs := z.cps.toList) (v := d) (j := 6) rfl ?_, q0 _ ?_⟩
      · have : (z.cps.toList.drop 6)[0]? = some d := by rw [hd]; rfl
        rw [List.getElem?_drop] at this
        exact this
      · unfold againP
        rw [if_pos h1, if_pos h7, hd]
        simp [isDig]
    · exact q0 _ (by unfold againP; rw [if_pos h1, if_neg (by omega)])
    · exact q0 _ (by unfold againP; rw [if_neg h1])
theorem ok_is_plain (T : Txt K mg) : FnOk Pg w K mg base CX0 1 T.a_is_plain T.d_is_plain ["line"] (spB plainP) := by
  refine T.f_is_plain.ok sc_is_plain (fun vs H Q E h => ?_) (fun cdv A outer s H vs Q E hr h => ?_)
  · obtain ⟨z, rfl, _⟩ := h
    rfl
  · obtain ⟨z, rfl, hz, q⟩ := h
    refine ⟨_, (pss_cons (ps_if (pt_cmpR op_eq (pe_slice sl_str (pv 0) po_none (po_some pe_int)) pe_str (nomark _))
  (pss_one (ps_ret (pe_cmpR op_in_seq (pe_slice sl_str (pv 0) (po_some pe_int) po_none) (pe_gl rfl T.c_QUESTIONS) rfl)))
  pss_nil)
  (pss_one (ps_ret (pe_cmpR op_in_seq (pv 0) (pe_gl rfl T.c_MOVES) rfl)))), ?_⟩
    walk_at "rd"
    have hs : z.length ≤ sizeLine := sz6 hz
    have q0 : ∀ b, plainP z = b → Q (.bl b) H := fun b e => e ▸ q H (Same.refl H)
    refine ⟨hs, ite2 (fun h1 => ?_) (fun h1 => ?_)⟩
    · refine ⟨hs, QS.map V.str, .inr (.inr T.s_QUESTIONS), rfl, all_flat QS, ?_⟩
      rw [in_strs]
      exact q0 _ (by unfold plainP; rw [if_pos h1])
    · refine ⟨MV.map V.str, .inr (.inr T.s_MOVES), rfl, all_flat MV, ?_⟩
      rw [in_strs]
      exact q0 _ (by unfold plainP; rw [if_neg h1])
theorem ok_is_opening (T : Txt K mg) : FnOk Pg w K mg base CX0 2 T.a_is_opening T.d_is_opening ["line"] (spB openP) := by
  have G_is_again := ok_is_again (w := w) (base := base) T
  refine T.f_is_opening.ok sc_is_opening (fun vs H Q E h => ?_) (fun cdv A outer s H vs Q E hr h => ?_)
  · obtain ⟨z, rfl, _⟩ := h
    rfl
  · obtain ⟨z, rfl, hz, q⟩ := h
    refine ⟨_, (pss_cons (ps_if (pt_cmpR op_eq (pe_slice sl_str (pv 0) po_none (po_some pe_int)) pe_str (nomark _))
  (pss_one (ps_ret (pe_cmpR op_in_seq (pe_slice sl_str (pv 0) (po_some pe_int) po_none) (pe_gl rfl T.c_VERDICTS) rfl)))
  pss_nil)
  (pss_one (ps_ret (pe_or (pe_cmpR op_eq (pv 0) (pe_gl rfl T.c_ALL) (nomark _)) (pe_one (pe_call G_is_again (hr.mono (by omega)) (by rfl) T.g_is_again T.f_is_again.kp T.b_is_again .nil pass0 (pa_cons (pv 0) pa_nil))))))), ?_⟩
    walk_at "rd"
    have hs : z.length ≤ sizeLine := sz6 hz
    have q0 : ∀ b, openP z = b → Q (.bl b) H := fun b e => e ▸ q H (Same.refl H)
    refine ⟨hs, ite2 (fun h1 => ?_) (fun h1 => ite2 (fun h2 => ?_) (fun h2 => ⟨hz, fun H' e => ?_⟩))⟩
    · refine ⟨hs, VD.map V.str, .inr (.inr T.s_VERDICTS), rfl, all_flat VD, ?_⟩
      rw [in_strs]
      exact q0 _ (by unfold openP; rw [if_pos h1])
    · exact q0 _ (by unfold openP; rw [if_neg h1, if_pos h2])
    · have := q H' e
      rw [show openP z = againP z by unfold openP; rw [if_neg h1, if_neg h2]] at this
      exact this
end
end K89

namespace K89
open PySem PySem.Spec PyProof.Rows L2 Lv
local macro_rules | `(tactic| walk_at "rd") => `(tactic| simp only [spB, r_seq, r_next, r_break, r_cont, r_asg, r_name, r_drop, r_ret, r_retN, r_if, r_var, r_c, r_op, r_un, r_test, r_B, r_and, r_or, r_not, r_andV, r_orV, r_notV, r_ifE, r_nil, r_cons, r_tup, r_lst, r_call, r_CB, r_BM, r_BM0, r_M1, r_M0, r_Sl, r_part, r_nopart, r_chain, r_I0, r_I, r_eq, r_ne, r_U, r_ixL, r_ixT, r_ixS, r_slL, r_slS, r_append, r_pop, r_sub, r_setL, r_cat, r_rep, r_in, r_strs, r_match, r_lc, r_for, r_iStr, r_iList, r_iTup, r_iRng1, r_iRng2, r_iEnumK, sign_inj, r_all, r_tStrs, r_gTup, r_gCons, r_gNil, wipe, cx_K, cx_N, cx_sc, r_stNil, st_start, List.set_cons_zero, List.set_cons_succ, List.getElem?_cons_zero, List.getElem?_cons_succ, Option.some.injEq, V.int.injEq, V.str.injEq, V.bl.injEq, V.ref.injEq, exists_eq_left', exists_eq_left, exists_eq', exists_and_left, true_and, and_true, exists_eq, exists_const, List.cons_append, List.nil_append, List.append_nil, List.cons.injEq, List.map_cons, List.map_nil, List.length_cons, List.length_nil, Nat.reduceAdd, Nat.reduceSub, List.replicate_succ, List.replicate_zero, Bool.not_eq_true', Bool.not_true, Bool.not_false, Bool.false_eq_true, if_true, if_false, ite_true, ite_false, decide_eq_true_eq, sc_ss, sc_ii, sc_bb, reduceCtorEq])
local macro_rules | `(tactic| walk_at "v") => `(tactic| refine ⟨_, rfl, ?_⟩)
local macro_rules | `(tactic| walk_at "sz") => `(tactic| first | exact Nat.le_trans (by assumption) (by decide) | exact Nat.zero_le _ | (rw [sizeLine_eq]; simp <;> omega) | omega)

section
variable {w : World} {K : PySem.W.Frag} {mg : Str → Option Value} {base : Heap}
theorem ok_is_deed (T : Txt K mg) : FnOk Pg w K mg base CX0 3 T.a_is_deed T.d_is_deed ["line"] (spB deedP) := by
  have G_is_place := ok_is_place (w := w) (base := base) T
  have G_is_number := ok_is_number (w := w) (base := base) T
  refine T.f_is_deed.ok sc_is_deed (fun vs H Q E h => ?_) (fun cdv A outer s H vs Q E hr h => ?_)
  · obtain ⟨z, rfl, _⟩ := h
    rfl
  · obtain ⟨z, rfl, hz, q⟩ := h
    refine ⟨_, (pss_cons (ps_set (i := 1) sc_is_deed.nd rfl (Or.inl rfl) (pe_split (pv 0) pe_str))
  (pss_cons (ps_match (pv 1) (pcs_cons sc_is_deed.nd (ppt_seq rfl (ppts_cons ppt_str (ppts_cons ppt_cap (ppts_cons ppt_cap (ppts_cons ppt_cap ppts_nil))))) (pss_one (ps_ret (pe_and (pe_call G_is_place (hr.mono (by omega)) (by rfl) T.g_is_place T.f_is_place.kp T.b_is_place .nil pass0 (pa_cons (pv 2) pa_nil)) (pe_and (pe_call G_is_number (hr.mono (by omega)) (by rfl) T.g_is_number T.f_is_number.kp T.b_is_number .nil pass0 (pa_cons (pv 3) pa_nil)) (pe_one (pe_call G_is_number (hr.mono (by omega)) (by rfl) T.g_is_number T.f_is_number.kp T.b_is_number .nil pass0 (pa_cons (pv 4) pa_nil)))))))
  (pcs_cons sc_is_deed.nd (ppt_seq rfl (ppts_cons ppt_str (ppts_cons ppt_cap (ppts_cons ppt_cap (ppts_cons ppt_cap ppts_nil))))) (pss_one (ps_ret (pe_and (pe_call G_is_place (hr.mono (by omega)) (by rfl) T.g_is_place T.f_is_place.kp T.b_is_place .nil pass0 (pa_cons (pv 2) pa_nil)) (pe_and (pe_call G_is_place (hr.mono (by omega)) (by rfl) T.g_is_place T.f_is_place.kp T.b_is_place .nil pass0 (pa_cons (pv 5) pa_nil)) (pe_one (pe_call G_is_place (hr.mono (by omega)) (by rfl) T.g_is_place T.f_is_place.kp T.b_is_place .nil pass0 (pa_cons (pv 6) pa_nil)))))))
  (pcs_cons sc_is_deed.nd (ppt_seq rfl (ppts_cons ppt_str (ppts_cons ppt_cap (ppts_cons ppt_cap (ppts_cons ppt_cap (ppts_cons ppt_str ppts_nil)))))) (pss_one (ps_ret (pe_and (pe_call G_is_place (hr.mono (by omega)) (by rfl) T.g_is_place T.f_is_place.kp T.b_is_place .nil pass0 (pa_cons (pv 2) pa_nil)) (pe_and (pe_call G_is_place (hr.mono (by omega)) (by rfl) T.g_is_place T.f_is_place.kp T.b_is_place .nil pass0 (pa_cons (pv 5) pa_nil)) (pe_one (pe_call G_is_place (hr.mono (by omega)) (by rfl) T.g_is_place T.f_is_place.kp T.b_is_place .nil pass0 (pa_cons (pv 6) pa_nil)))))))
  (pcs_cons sc_is_deed.nd (ppt_seq rfl (ppts_cons (ppt_or (ppf_cons ppt_str (ppf_cons ppt_str (ppf_cons ppt_str (ppf_cons ppt_str ppf_nil))))) (ppts_cons ppt_cap ppts_nil))) (pss_one (ps_ret (pe_call G_is_place (hr.mono (by omega)) (by rfl) T.g_is_place T.f_is_place.kp T.b_is_place .nil pass0 (pa_cons (pv 2) pa_nil))))
  pcs_nil)))))
  (pss_one (ps_ret pe_bl)))), ?_⟩
    walk_at "rd"
    refine ⟨rfl, by rw [sizeLine_eq]; omega, fun p hp => ?_⟩
    have eS : (upd H p (.lst ((Txt.split z sp1).map V.str))) p = some (.lst ((Txt.split z sp1).map V.str)) := upd_same
    have s1 : Same H (upd H p (.lst ((Txt.split z sp1).map V.str))) := Evl.Ex.new hp
    have short : ∀ x ∈ Txt.split z sp1, x.length ≤ 1000000 := fun x hx => Nat.le_trans (part_short hx) hz
    have q0 : ∀ b, deedW (Txt.split z sp1) = b → ∀ H', Same (upd H p (.lst ((Txt.split z sp1).map V.str))) H' → Q (.bl b) H' := fun b e H' k => e ▸ q H' (s1.trans k)
    show tcCons _ _ _ _ _ _ _ _ (upd H p (.lst ((Txt.split z sp1).map V.str)))
    generalize Txt.split z sp1 = ws at *
    generalize upd H p (.lst (ws.map V.str)) = H1 at *
    have hS : SqL K H1 p (ws.map V.str) := SqL.of eS
    have n4 : ∀ {t : TPats} {u : TCs} {b : TS} {N sc D σ}, ws.length ≠ 4 → u (.ref p) D σ H1 → tcCons N sc (ptSeq K 4 t) b u (.ref p) D σ H1 := fun hn k => tc_miss (fun Q' q' => seq_no hS (by rw [List.length_map]; exact hn) q') k
    have n5 : ∀ {t : TPats} {u : TCs} {b : TS} {N sc D σ}, ws.length ≠ 5 → u (.ref p) D σ H1 → tcCons N sc (ptSeq K 5 t) b u (.ref p) D σ H1 := fun hn k => tc_miss (fun Q' q' => seq_no hS (by rw [List.length_map]; exact hn) q') k
    have n2 : ∀ {t : TPats} {u : TCs} {b : TS} {N sc D σ}, ws.length ≠ 2 → u (.ref p) D σ H1 → tcCons N sc (ptSeq K 2 t) b u (.ref p) D σ H1 := fun hn k => tc_miss (fun Q' q' => seq_no hS (by rw [List.length_map]; exact hn) q') k
    have fin : deedW ws = false → tcNil (.ref p) { nx := tRet (tC (.bl false)) { nx := fun _ H' => Q .non H', rt := Q }, rt := Q } [some (.str z), some (.ref p), none, none, none, none, none] H1 := fun e => q0 _ e _ (Same.refl _)
    match ws with
    | [a, b, c, d] =>
      have ha := short a (by simp)
      have hb := short b (by simp)
      have hc := short c (by simp)
      have hd := short d (by simp)
      by_cases e1 : a = "station"
      · subst e1
        refine tc_hit (bs := [("name", .str b), ("docks", .str c), ("bikes", .str d)]) (fun Q' q' => seq_on hS rfl (caps_str (caps_cap (caps_cap (caps_cap q'))))) ⟨2, rfl, .inl rfl, 3, rfl, .inl rfl, 4, rfl, .inl rfl, ?_⟩
        walk_at "rd"
        refine ⟨hb, fun H2 k2 => ite2 (fun h1 => ⟨hc, fun H3 k3 => ite2 (fun h2 => ⟨hd, fun H4 k4 => ?_⟩) (fun h2 => ?_)⟩) (fun h1 => ?_)⟩
        · exact q0 _ (by simp [deedW, h1, h2]) _ ((k2.trans k3).trans k4)
        · exact q0 _ (by simp [deedW, h1, h2]) _ (k2.trans k3)
        · exact q0 _ (by simp [deedW, h1]) _ k2
      refine tc_miss (fun Q' q' => seq_on hS rfl (caps_no e1 q')) ?_
      by_cases e2 : a = "book"
      · subst e2
        refine tc_hit (bs := [("name", .str b), ("start", .str c), ("goal", .str d)]) (fun Q' q' => seq_on hS rfl (caps_str (caps_cap (caps_cap (caps_cap q'))))) ⟨2, rfl, .inl rfl, 5, rfl, .inl rfl, 6, rfl, .inl rfl, ?_⟩
        walk_at "rd"
        refine ⟨hb, fun H2 k2 => ite2 (fun h1 => ⟨hc, fun H3 k3 => ite2 (fun h2 => ⟨hd, fun H4 k4 => ?_⟩) (fun h2 => ?_)⟩) (fun h1 => ?_)⟩
        · exact q0 _ (by simp [deedW, h1, h2, ne_book_station]) _ ((k2.trans k3).trans k4)
        · exact q0 _ (by simp [deedW, h1, h2, ne_book_station]) _ (k2.trans k3)
        · exact q0 _ (by simp [deedW, h1, ne_book_station]) _ k2
      refine tc_miss (fun Q' q' => seq_on hS rfl (caps_no e2 q')) (n5 (by show (4 : Nat) ≠ 5; decide) (n2 (by show (4 : Nat) ≠ 2; decide) (fin ?_)))
      simp [deedW, e1, e2]
    | [a, b, c, d, e] =>
      have ha := short a (by simp)
      have hb := short b (by simp)
      have hc := short c (by simp)
      have hd := short d (by simp)
      refine n4 (by show (5 : Nat) ≠ 4; decide) (n4 (by show (5 : Nat) ≠ 4; decide) ?_)
      by_cases e2 : a = "book"
      · subst e2
        by_cases e3 : e = "unkept"
        · subst e3
          refine tc_hit (bs := [("name", .str b), ("start", .str c), ("goal", .str d)]) (fun Q' q' => seq_on hS rfl (caps_str (caps_cap (caps_cap (caps_cap (caps_str q')))))) ⟨2, rfl, .inl rfl, 5, rfl, .inl rfl, 6, rfl, .inl rfl, ?_⟩
          walk_at "rd"
          refine ⟨hb, fun H2 k2 => ite2 (fun h1 => ⟨hc, fun H3 k3 => ite2 (fun h2 => ⟨hd, fun H4 k4 => ?_⟩) (fun h2 => ?_)⟩) (fun h1 => ?_)⟩
          · exact q0 _ (by simp [deedW, h1, h2]) _ ((k2.trans k3).trans k4)
          · exact q0 _ (by simp [deedW, h1, h2]) _ (k2.trans k3)
          · exact q0 _ (by simp [deedW, h1]) _ k2
        · exact tc_miss (fun Q' q' => seq_on hS rfl (caps_str (caps_cap (caps_cap (caps_cap (caps_no e3 q')))))) (n2 (by show (5 : Nat) ≠ 2; decide) (fin (by simp [deedW, e3])))
      · exact tc_miss (fun Q' q' => seq_on hS rfl (caps_no e2 q')) (n2 (by show (5 : Nat) ≠ 2; decide) (fin (by simp [deedW, e2])))
    | [a, b] =>
      have hb := short b (by simp)
      refine n4 (by show (2 : Nat) ≠ 4; decide) (n4 (by show (2 : Nat) ≠ 4; decide) (n5 (by show (2 : Nat) ≠ 5; decide) ?_))
      by_cases ho : a = "cancel" ∨ a = "go" ∨ a = "bring" ∨ a = "take"
      · refine tc_hit (bs := [("name", .str b)]) (fun Q' q' => seq_on hS rfl ?_) ⟨2, rfl, .inl rfl, ?_⟩
        · refine caps_or (b := true) (fun QB qb => ?_) (caps_cap q')
          rcases ho with rfl | rfl | rfl | rfl
          · exact pf_yes qb
          · exact pf_no (by decide) (pf_yes qb)
          · exact pf_no (by decide) (pf_no (by decide) (pf_yes qb))
          · exact pf_no (by decide) (pf_no (by decide) (pf_no (by decide) (pf_yes qb)))
        · walk_at "rd"
          refine ⟨hb, fun H2 k2 => q0 (isPlaceP b) (by show (if _ then _ else _) = _; rw [if_pos ho]) _ k2⟩
      · refine tc_miss (fun Q' q' => seq_on hS rfl (caps_or (b := false) (fun QB qb => pf_no (fun z => ho (.inl z)) (pf_no (fun z => ho (.inr (.inl z))) (pf_no (fun z => ho (.inr (.inr (.inl z)))) (pf_no (fun z => ho (.inr (.inr (.inr z)))) qb)))) q')) (fin ?_)
        show (if _ then _ else _) = _
        rw [if_neg ho]
    | [] => exact n4 (by decide) (n4 (by decide) (n5 (by decide) (n2 (by decide) (fin rfl))))
    | [a] => exact n4 (by show (1 : Nat) ≠ 4; decide) (n4 (by show (1 : Nat) ≠ 4; decide) (n5 (by show (1 : Nat) ≠ 5; decide) (n2 (by show (1 : Nat) ≠ 2; decide) (fin rfl))))
    | [a, b, c] => exact n4 (by show (3 : Nat) ≠ 4; decide) (n4 (by show (3 : Nat) ≠ 4; decide) (n5 (by show (3 : Nat) ≠ 5; decide) (n2 (by show (3 : Nat) ≠ 2; decide) (fin rfl))))
    | a :: b :: c :: d :: e :: f :: r => exact n4 (by show r.length + 6 ≠ 4; omega) (n4 (by show r.length + 6 ≠ 4; omega) (n5 (by show r.length + 6 ≠ 5; omega) (n2 (by show r.length + 6 ≠ 2; omega) (fin rfl))))
end
end K89

namespace K89
open PySem PySem.Spec PyProof.Rows L2 Lv
local macro_rules | `(tactic| walk_at "rd") => `(tactic| simp only [spB, r_seq, r_next, r_break, r_cont, r_asg, r_name, r_drop, r_ret, r_retN, r_if, r_var, r_c, r_op, r_un, r_test, r_B, r_and, r_or, r_not, r_andV, r_orV, r_notV, r_ifE, r_nil, r_cons, r_tup, r_lst, r_call, r_CB, r_BM, r_BM0, r_M1, r_M0, r_Sl, r_part, r_nopart, r_chain, r_I0, r_I, r_eq, r_ne, r_U, r_ixL, r_ixT, r_ixS, r_slL, r_slS, r_append, r_pop, r_sub, r_setL, r_cat, r_rep, r_in, r_strs, r_match, r_lc, r_for, r_iStr, r_iList, r_iTup, r_iRng1, r_iRng2, r_iEnumK, sign_inj, r_all, r_tStrs, r_gTup, r_gCons, r_gNil, wipe, cx_K, cx_N, cx_sc, r_stNil, st_start, List.set_cons_zero, List.set_cons_succ, List.getElem?_cons_zero, List.getElem?_cons_succ, Option.some.injEq, V.int.injEq, V.str.injEq, V.bl.injEq, V.ref.injEq, exists_eq_left', exists_eq_left, exists_eq', exists_and_left, true_and, and_true, exists_eq, exists_const, List.cons_append, List.nil_append, List.append_nil, List.cons.injEq, List.map_cons, List.map_nil, List.length_cons, List.length_nil, Nat.reduceAdd, Nat.reduceSub, List.replicate_succ, List.replicate_zero, Bool.not_eq_true', Bool.not_true, Bool.not_false, Bool.false_eq_true, if_true, if_false, ite_true, ite_false, decide_eq_true_eq, sc_ss, sc_ii, sc_bb, reduceCtorEq])
local macro_rules | `(tactic| walk_at "v") => `(tactic| refine ⟨_, rfl, ?_⟩)
local macro_rules | `(tactic| walk_at "sz") => `(tactic| first | exact Nat.le_trans (by assumption) (by decide) | exact Nat.zero_le _ | (rw [sizeLine_eq]; simp <;> omega) | omega)

section
variable {w : World} {K : PySem.W.Frag} {mg : Str → Option Value} {base : Heap}
theorem ok__law_is_deed (T : Txt K mg) : FnOk Pg w K mg base CX0 2 T.a__law_is_deed T.d__law_is_deed ["line"] (spB deedL) := by
  have G__law_is_place := ok__law_is_place (w := w) (base := base) T
  have G__law_is_count := ok__law_is_count (w := w) (base := base) T
  refine T.f__law_is_deed.ok sc__law_is_deed (fun vs H Q E h => ?_) (fun cdv A outer s H vs Q E hr h => ?_)
  · obtain ⟨z, rfl, _⟩ := h
    rfl
  · obtain ⟨z, rfl, hz, q⟩ := h
    refine ⟨_, (pss_cons (ps_set (i := 1) sc__law_is_deed.nd rfl (Or.inl rfl) (pe_split (pv 0) pe_str))
  (pss_cons (ps_if (pt_cmpR op_eq (pe_ix (r := rIxL K) ix_list (pv 1) pe_int (fun _ _ => rfl)) pe_str (nomark _))
  (pss_one (ps_ret (pe_and (pe_cmpR op_eq (pe_callB call_len_seq (by rfl) T.z_len PySem.boot_len (pa_cons (pv 1) pa_nil)) pe_int (nomark _)) (pe_and (pe_call G__law_is_place (hr.mono (by omega)) (by rfl) T.g__law_is_place T.f__law_is_place.kp T.b__law_is_place .nil pass0 (pa_cons (pe_ix (r := rIxL K) ix_list (pv 1) pe_int (fun _ _ => rfl)) pa_nil)) (pe_and (pe_call G__law_is_count (hr.mono (by omega)) (by rfl) T.g__law_is_count T.f__law_is_count.kp T.b__law_is_count .nil pass0 (pa_cons (pe_ix (r := rIxL K) ix_list (pv 1) pe_int (fun _ _ => rfl)) pa_nil)) (pe_one (pe_call G__law_is_count (hr.mono (by omega)) (by rfl) T.g__law_is_count T.f__law_is_count.kp T.b__law_is_count .nil pass0 (pa_cons (pe_ix (r := rIxL K) ix_list (pv 1) pe_int (fun _ _ => rfl)) pa_nil))))))))
  pss_nil)
  (Evl.pss_cut (ps_if (PW.pt (pw_and (pt_cmpR op_eq (pe_ix (r := rIxL K) ix_list (pv 1) pe_int (fun _ _ => rfl)) pe_str (nomark _)) (pw_and (pt_cmpR op_eq (pe_callB call_len_seq (by rfl) T.z_len PySem.boot_len (pa_cons (pv 1) pa_nil)) pe_int (nomark _)) (pw_and1 (pt_cmpR op_eq (pe_ix (r := rIxL K) ix_list (pv 1) pe_int (fun _ _ => rfl)) pe_str (nomark _))))))
  (pss_one (ps_set (i := 1) sc__law_is_deed.nd rfl (Or.inl rfl) (pe_slice sl_list (pv 1) po_none (po_some pe_int))))
  pss_nil)
  (pss_cons (ps_for PassesOwn.never rfl (pi_list (pe_slice sl_list (pv 1) (po_some pe_int) po_none)) (pg_name (i := 2) sc__law_is_deed.nd rfl (Or.inl rfl))
  (pss_one (ps_if (pt_not (pt_val (pe_call G__law_is_place (hr.mono (by omega)) (by rfl) T.g__law_is_place T.f__law_is_place.kp T.b__law_is_place .nil pass0 (pa_cons (pv 2) pa_nil))))
  (pss_one (ps_ret pe_bl))
  pss_nil)))
  (pss_cons (ps_if (pt_cmpR op_eq (pe_ix (r := rIxL K) ix_list (pv 1) pe_int (fun _ _ => rfl)) pe_str (nomark _))
  (pss_one (ps_ret (pe_cmpR op_eq (pe_callB call_len_seq (by rfl) T.z_len PySem.boot_len (pa_cons (pv 1) pa_nil)) pe_int (nomark _))))
  pss_nil)
  (pss_one (ps_ret (pe_and (pe_cmpR op_eq (pe_callB call_len_seq (by rfl) T.z_len PySem.boot_len (pa_cons (pv 1) pa_nil)) pe_int (nomark _)) (pe_one (pe_cmpR op_in_seq (pe_ix (r := rIxL K) ix_list (pv 1) pe_int (fun _ _ => rfl)) (pe_tup (pa_cons pe_str (pa_cons pe_str (pa_cons pe_str (pa_cons pe_str pa_nil))))) rfl)))))))))), ?_⟩
    walk_at "rd"
    refine ⟨rfl, sz2 hz, fun p hp => ?_⟩
    have eS : (upd H p (.lst ((Txt.split z sp1).map V.str))) p = some (.lst ((Txt.split z sp1).map V.str)) := upd_same
    have s1 : Same H (upd H p (.lst ((Txt.split z sp1).map V.str))) := Evl.Ex.new hp
    have short : ∀ x ∈ Txt.split z sp1, x.length ≤ 1000000 := fun x hx => Nat.le_trans (part_short hx) hz
    have q0 : ∀ b, deedLW (Txt.split z sp1) = b → ∀ H', Same (upd H p (.lst ((Txt.split z sp1).map V.str))) H' → Q (.bl b) H' := fun b e H' k => e ▸ q H' (s1.trans k)
    have pos := split_pos z sp1
    have many := split_le z sp1
    change ∃ x, SqL K (upd H p (.lst ((Txt.split z sp1).map V.str))) p x ∧ _
    have ew : Txt.split z (Str.ofString " ") = Txt.split z sp1 := rfl
    rw [ew]
    generalize Txt.split z sp1 = ws at *
    generalize upd H p (.lst (ws.map V.str)) = H1 at *
    match ws, pos with
    | a :: r, _ =>
    have hS : SqL K H1 p ((a :: r).map V.str) := SqL.of eS
    have same : ∀ {H'}, Same H1 H' → SqL K H' p ((a :: r).map V.str) := fun k => k.seq hS
    refine ⟨_, hS, .str a, at0, rfl, ite2 (fun h1 => ?_) (fun h1 => ?_)⟩
    · have h1 : a = "station" := V.str.inj h1
      refine ⟨_, .inl hS, ite2 (fun h2 => ?_) (fun h2 => ?_)⟩
      · match r, h2 with
        | [b, c, d], _ =>
          refine ⟨_, hS, .str b, at1, b, rfl, short b (by simp), fun H2 k2 => ite2 (fun h3 => ?_) (fun h3 => ?_)⟩
          · refine ⟨_, same k2, .str c, at2, c, rfl, short c (by simp), fun H3 k3 => ite2 (fun h4 => ?_) (fun h4 => ?_)⟩
            · exact ⟨_, same (k2.trans k3), .str d, at3, d, rfl, short d (by simp), fun H4 k4 => q0 _ (by simp [deedLW, h1, h3, h4]) _ ((k2.trans k3).trans k4)⟩
            · exact q0 _ (by simp [deedLW, h1, h3, h4]) _ (k2.trans k3)
          · exact q0 _ (by simp [deedLW, h1, h3]) _ k2
      · have h2' : ¬ r.length = 3 := fun e => h2 (by
          rw [List.length_map, List.length_cons, e]
          rfl)
        exact q0 _ (by simp [deedLW, h1, h2']) _ (Same.refl _)
    · have h1 : ¬ a = "station" := fun e => h1 (congrArg V.str e)
      obtain ⟨us, hus⟩ : ∃ us, us = if a = "book" ∧ r.length = 4 ∧ r[3]? = some ("unkept" : Str) then (a :: r).take 4 else a :: r := ⟨_, rfl⟩
      obtain ⟨Mid, hMid⟩ := opq2 fun (σ' : L2.St) (H' : Hp) => ∃ (p' : Addr) (x : Option V), σ' = [some (.str z), some (.ref p'), x] ∧ Same H1 H' ∧ SqL K H' p' (us.map V.str)
      refine ⟨Mid, ?_, fun σ' H' hm => ?_⟩
      · walk_at "rd"
        refine ⟨_, hS, .str a, at0, rfl, ite2 (fun h2 => ?_) (fun h2 => ?_)⟩
        · have h2 : a = "book" := V.str.inj h2
          refine ⟨_, .inl hS, ite2 (fun h3 => ?_) (fun h3 => ?_)⟩
          · obtain ⟨b, c, d, e, rfl⟩ := len4 (l := r) (by rw [List.length_map, List.length_cons] at h3; omega)
            · refine ⟨_, hS, .str e, at4, rfl, ite2 (fun h4 => ?_) (fun h4 => ?_)⟩
              · have h4 : e = "unkept" := V.str.inj h4
                refine ⟨_, hS, fun p2 hp2 => (hMid _ _).mpr ⟨p2, none, rfl, Evl.Ex.new hp2, SqL.of ?_⟩⟩
                rw [upd_same]
                show some (HO.lst (cutV [.str a, .str b, .str c, .str d, .str e] none (some ((4 : Nat) : Int)))) = _
                rw [cutV_take]
                have eu : us = [a, b, c, d] := hus.trans (if_pos ⟨h2, rfl, by rw [h4]; rfl⟩)
                rw [eu]
                rfl
              · have eu : us = [a, b, c, d, e] := hus.trans (if_neg fun ⟨_, _, z⟩ => h4 (congrArg V.str (Option.some.inj z)))
                exact (hMid _ _).mpr ⟨p, none, rfl, Same.refl _, by rw [eu]; exact hS⟩
          · have eu : us = a :: r := hus.trans (if_neg fun ⟨_, z, _⟩ => h3 (by
              rw [List.length_map, List.length_cons, z]
              rfl))
            exact (hMid _ _).mpr ⟨p, none, rfl, Same.refl _, by rw [eu]; exact hS⟩
        · have eu : us = a :: r := hus.trans (if_neg fun ⟨z, _⟩ => h2 (congrArg V.str z))
          exact (hMid _ _).mpr ⟨p, none, rfl, Same.refl _, by rw [eu]; exact hS⟩
      · obtain ⟨p', x, rfl, k1, hU⟩ := (hMid _ _).mp hm
        have eD : deedLW (a :: r) = if (us.drop 1).all placeL then (if us[0]? = some ("book" : Str) then decide (us.length = 4) else decide (us.length = 2) && decide (us[0]? = some ("cancel" : Str) ∨ us[0]? = some ("go" : Str) ∨ us[0]? = some ("bring" : Str) ∨ us[0]? = some ("take" : Str))) else false := by
          unfold deedLW
          rw [if_neg (show ¬ (a :: r)[0]? = some ("station" : Str) from fun z => h1 (Option.some.inj z))]
          have c : ((a :: r)[0]? = some ("book" : Str) ∧ (a :: r).length = 5 ∧ (a :: r)[4]? = some ("unkept" : Str)) ↔ (a = "book" ∧ r.length = 4 ∧ r[3]? = some ("unkept" : Str)) := by simp
          simp only [c]
          rw [← hus]
        have su : ∀ x ∈ us, x.length ≤ 1000000 := fun x hx => short x (by
          by_cases c : a = "book" ∧ r.length = 4 ∧ r[3]? = some ("unkept" : Str)
          · have eu : us = (a :: r).take 4 := hus.trans (if_pos c)
            rw [eu] at hx
            exact List.mem_of_mem_take hx
          · have eu : us = a :: r := hus.trans (if_neg c)
            rw [eu] at hx
            exact hx)
        obtain ⟨ur, eu⟩ : ∃ ur, us = a :: ur := by
          by_cases c : a = "book" ∧ r.length = 4 ∧ r[3]? = some ("unkept" : Str)
          · exact ⟨r.take 3, hus.trans (if_pos c)⟩
          · exact ⟨r, hus.trans (if_neg c)⟩
        have many' : us.length ≤ z.length + 2 := by
          by_cases c : a = "book" ∧ r.length = 4 ∧ r[3]? = some ("unkept" : Str)
          · rw [hus.trans (if_pos c), List.length_take]
            omega
          · rw [hus.trans (if_neg c)]
            exact many
        rw [eD] at q0
        rw [eu] at hU q0 su many'
        clear eD
        walk_at "rd"
        refine ⟨_, hU, fun p3 hp3 => ?_⟩
        have h0 : ((1 : Nat) : Int) = 1 := rfl
        have e3 : cutV ((a :: ur).map V.str) (some 1) none = ur.map V.str := cutV_drop (k := 1)
        rw [e3]
        have k3 : Same H' (upd H' p3 (.lst (ur.map V.str))) := Evl.Ex.new hp3
        have hS3 : SqL K (upd H' p3 (.lst (ur.map V.str))) p3 (ur.map V.str) := SqL.of upd_same
        generalize upd H' p3 (.lst (ur.map V.str)) = H3 at *
        refine ⟨⟨_, hS3⟩, ?_⟩
        obtain ⟨Pv, hPv⟩ := opq3 fun (i : Nat) (σ : L2.St) (H4 : Hp) => ∃ x, σ = [some (.str z), some (.ref p'), x] ∧ Same H3 H4 ∧ (ur.take i).all placeL = true
        refine f_list Pv ((hPv _ _ _).mpr ⟨x, rfl, Same.refl _, by simp⟩) (fun i σ H4 _ p => ((hPv _ _ _).mp p).elim fun x px => px.2.1.seq hS3) (fun i v σ H4 hi p => ?_) (fun σ H4 p => ?_)
        · obtain ⟨x, rfl, k4, pa⟩ := (hPv _ _ _).mp p
          obtain ⟨y, hy, rfl⟩ : ∃ y, ur[i]? = some y ∧ v = .str y := by
            rw [List.getElem?_map] at hi
            cases e : ur[i]? with
            | none => rw [e] at hi; cases hi
            | some y => rw [e] at hi; exact ⟨y, rfl, (Option.some.inj hi).symm⟩
          walk_at "rd"
          refine ⟨su y (List.mem_cons_of_mem _ (List.mem_of_getElem? hy)), fun H5 k5 => ite2 (fun h4 => ?_) (fun h4 => ?_)⟩
          · have hf : ur.all placeL = false := by
              rw [List.all_eq_false]
              exact ⟨y, List.mem_of_getElem? hy, by rw [h4]; decide⟩
            exact q0 _ (by simp [hf]) _ (k1.trans (k3.trans (k4.trans k5)))
          · refine (hPv _ _ _).mpr ⟨_, rfl, k4.trans k5, ?_⟩
            rw [take_snoc hy, List.all_append, pa]
            have : placeL y = true := by simpa using h4
            simp [this]
        · obtain ⟨x, rfl, k4, pa⟩ := (hPv _ _ _).mp p
          rw [List.length_map, List.take_length] at pa
          have kk : Same H1 H4 := k1.trans (k3.trans k4)
          have hU4 : SqL K H4 p' ((a :: ur).map V.str) := (k3.trans k4).seq hU
          walk_at "rd"
          refine ⟨_, hU4, .str a, at0, rfl, ite2 (fun h5 => ?_) (fun h5 => ?_)⟩
          · have h5 : a = "book" := V.str.inj h5
            refine ⟨_, .inl hU4, q0 _ ?_ _ kk⟩
            rw [if_pos (by simpa using pa), if_pos (by rw [h5]; rfl)]
            congr 1
            rw [List.length_map]
            apply propext
            omega
          · have h5' : ¬ (a :: ur)[0]? = some ("book" : Str) := fun z => h5 (congrArg V.str (Option.some.inj z))
            refine ⟨_, .inl hU4, ite2 (fun h6 => ?_) (fun h6 => ?_)⟩
            · refine ⟨_, hU4, .str a, at0, by rw [sizeLine_eq]; decide, fun p4 hp4 => ⟨(["cancel", "go", "bring", "take"] : List Str).map V.str, .inr (SqT.of upd_same), rfl, all_flat _, ?_⟩⟩
              rw [in_strs]
              refine q0 _ ?_ _ (kk.trans (Evl.Ex.new hp4))
              have h6' : (a :: ur).length = 2 := by
                rw [List.length_map] at h6
                omega
              rw [if_pos (by simpa using pa), if_neg h5', decide_eq_true h6']
              simp
            · refine q0 _ ?_ _ kk
              have h6' : ¬ (a :: ur).length = 2 := by
                rw [List.length_map] at h6
                omega
              rw [if_pos (by simpa using pa), if_neg h5', decide_eq_false h6']
              rfl
end
end K89

namespace K89
open PySem PySem.Spec PyProof.Rows L2 Lv
local macro_rules | `(tactic| walk_at "rd") => `(tactic| simp only [spB, r_seq, r_next, r_break, r_cont, r_asg, r_name, r_drop, r_ret, r_retN, r_if, r_var, r_c, r_op, r_un, r_test, r_B, r_and, r_or, r_not, r_andV, r_orV, r_notV, r_ifE, r_nil, r_cons, r_tup, r_lst, r_call, r_CB, r_BM, r_BM0, r_M1, r_M0, r_Sl, r_part, r_nopart, r_chain, r_I0, r_I, r_eq, r_ne, r_U, r_ixL, r_ixT, r_ixS, r_slL, r_slS, r_append, r_pop, r_sub, r_setL, r_cat, r_rep, r_in, r_strs, r_match, r_lc, r_for, r_iStr, r_iList, r_iTup, r_iRng1, r_iRng2, r_iEnumK, sign_inj, r_all, r_tStrs, r_gTup, r_gCons, r_gNil, wipe, cx_K, cx_N, cx_sc, r_stNil, st_start, List.set_cons_zero, List.set_cons_succ, List.getElem?_cons_zero, List.getElem?_cons_succ, Option.some.injEq, V.int.injEq, V.str.injEq, V.bl.injEq, V.ref.injEq, exists_eq_left', exists_eq_left, exists_eq', exists_and_left, true_and, and_true, exists_eq, exists_const, List.cons_append, List.nil_append, List.append_nil, List.cons.injEq, List.map_cons, List.map_nil, List.length_cons, List.length_nil, Nat.reduceAdd, Nat.reduceSub, List.replicate_succ, List.replicate_zero, Bool.not_eq_true', Bool.not_true, Bool.not_false, Bool.false_eq_true, if_true, if_false, ite_true, ite_false, decide_eq_true_eq, sc_ss, sc_ii, sc_bb, reduceCtorEq])
local macro_rules | `(tactic| walk_at "v") => `(tactic| refine ⟨_, rfl, ?_⟩)
local macro_rules | `(tactic| walk_at "sz") => `(tactic| first | exact Nat.le_trans (by assumption) (by decide) | exact Nat.zero_le _ | (rw [sizeLine_eq]; simp <;> omega) | omega)

section
variable {w : World} {K : PySem.W.Frag} {mg : Str → Option Value} {base : Heap}
theorem ok__law_is_plain (T : Txt K mg) : FnOk Pg w K mg base CX0 1 T.a__law_is_plain T.d__law_is_plain ["line"] (spB plainL) := by
  refine T.f__law_is_plain.ok sc__law_is_plain (fun vs H Q E h => ?_) (fun cdv A outer s H vs Q E hr h => ?_)
  · obtain ⟨z, rfl, _⟩ := h
    rfl
  · obtain ⟨z, rfl, hz, q⟩ := h
    refine ⟨_, (pss_cons (ps_set (i := 1) sc__law_is_plain.nd rfl (Or.inl rfl) (pe_split (pv 0) pe_str))
  (pss_cons (ps_if (PW.pt (pw_and (pt_cmpR op_eq (pe_ix (r := rIxL K) ix_list (pv 1) pe_int (fun _ _ => rfl)) pe_str (nomark _)) (pw_and1 (pt_cmpR op_eq (pe_callB call_len_seq (by rfl) T.z_len PySem.boot_len (pa_cons (pv 1) pa_nil)) pe_int (nomark _)))))
  (pss_one (ps_ret (pe_cmpR op_in_seq (pe_ix (r := rIxL K) ix_list (pv 1) pe_int (fun _ _ => rfl)) (pe_tup (pa_cons pe_str (pa_cons pe_str (pa_cons pe_str (pa_cons pe_str (pa_cons pe_str (pa_cons pe_str (pa_cons pe_str (pa_cons pe_str pa_nil))))))))) rfl)))
  pss_nil)
  (pss_cons (ps_if (PW.pt (pw_and (pt_cmpR op_eq (pe_ix (r := rIxL K) ix_list (pv 1) pe_int (fun _ _ => rfl)) pe_str (nomark _)) (pw_and1 (pt_cmpR op_eq (pe_callB call_len_seq (by rfl) T.z_len PySem.boot_len (pa_cons (pv 1) pa_nil)) pe_int (nomark _)))))
  (pss_one (ps_ret (pe_cmpR op_in_seq (pe_ix (r := rIxL K) ix_list (pv 1) pe_int (fun _ _ => rfl)) (pe_tup (pa_cons pe_str (pa_cons pe_str (pa_cons pe_str pa_nil)))) rfl)))
  pss_nil)
  (pss_one (ps_ret (pe_cmpR op_in_seq (pv 0) (pe_tup (pa_cons pe_str (pa_cons pe_str (pa_cons pe_str pa_nil)))) rfl)))))), ?_⟩
    walk_at "rd"
    refine ⟨rfl, sz2 hz, fun p hp => ?_⟩
    have eS : (upd H p (.lst ((Txt.split z sp1).map V.str))) p = some (.lst ((Txt.split z sp1).map V.str)) := upd_same
    have s1 : Same H (upd H p (.lst ((Txt.split z sp1).map V.str))) := Evl.Ex.new hp
    have q0 : ∀ b, plainLW z (Txt.split z sp1) = b → ∀ H', Same (upd H p (.lst ((Txt.split z sp1).map V.str))) H' → Q (.bl b) H' := fun b e H' k => e ▸ q H' (s1.trans k)
    have pos := split_pos z sp1
    change ∃ x, SqL K (upd H p (.lst ((Txt.split z sp1).map V.str))) p x ∧ _
    have ew : Txt.split z (Str.ofString " ") = Txt.split z sp1 := rfl
    rw [ew]
    generalize Txt.split z sp1 = ws at *
    generalize upd H p (.lst (ws.map V.str)) = H1 at *
    match ws, pos with
    | a :: r, _ =>
    have hS : SqL K H1 p ((a :: r).map V.str) := SqL.of eS
    have last : ¬ ((a :: r)[0]? = some ("ask" : Str) ∧ (a :: r).length = 2) → ¬ ((a :: r)[0]? = some ("guard" : Str) ∧ (a :: r).length = 2) → 3 ≤ sizeLine ∧ ∀ p2, H1 p2 = none → ∃ x, (SqL K (upd H1 p2 (.tup [.str "undo", .str "redo", .str "send"])) p2 x ∨ SqT K (upd H1 p2 (.tup [.str "undo", .str "redo", .str "send"])) p2 x) ∧ flatV (.str z) = true ∧ x.all flatV = true ∧ Q (.bl (inV (.str z) x)) (upd H1 p2 (.tup [.str "undo", .str "redo", .str "send"])) := fun n1 n2 =>
      ⟨by rw [sizeLine_eq]; decide, fun p2 hp2 => ⟨(["undo", "redo", "send"] : List Str).map V.str, .inr (SqT.of upd_same), rfl, all_flat _, by
        rw [in_strs]
        exact q0 _ (by unfold plainLW; rw [if_neg n1, if_neg n2]) _ (Evl.Ex.new hp2)⟩⟩
    have h2 : ∀ {n : Nat}, ¬ ((((a :: r).map V.str).length : Nat) : Int) = 2 → ¬ (a :: r).length = 2 := fun h e => h (by rw [List.length_map, e]; rfl)
    have e2 : ((((a :: r).map V.str).length : Nat) : Int) = 2 → (a :: r).length = 2 := fun h => by
      rw [List.length_map] at h
      omega
    have guard : ¬ ((a :: r)[0]? = some ("ask" : Str) ∧ (a :: r).length = 2) → ∃ x, SqL K H1 p x ∧ ∃ x_2, atI x 0 = some x_2 ∧ scal x_2 (V.str "guard") = true ∧ if x_2 = V.str "guard" then ∃ x, (SqL K H1 p x ∨ SqT K H1 p x) ∧ if (x.length : Int) = 2 then ∃ x, SqL K H1 p x ∧ ∃ x_3, atI x 1 = some x_3 ∧ 3 ≤ sizeLine ∧ ∀ p2, H1 p2 = none → ∃ x, (SqL K (upd H1 p2 (.tup [.str "free", .str "wise", .str "sure"])) p2 x ∨ SqT K (upd H1 p2 (.tup [.str "free", .str "wise", .str "sure"])) p2 x) ∧ flatV x_3 = true ∧ x.all flatV = true ∧ Q (.bl (inV x_3 x)) (upd H1 p2 (.tup [.str "free", .str "wise", .str "sure"]))
        else 3 ≤ sizeLine ∧ ∀ p2, H1 p2 = none → ∃ x, (SqL K (upd H1 p2 (.tup [.str "undo", .str "redo", .str "send"])) p2 x ∨ SqT K (upd H1 p2 (.tup [.str "undo", .str "redo", .str "send"])) p2 x) ∧ flatV (.str z) = true ∧ x.all flatV = true ∧ Q (.bl (inV (.str z) x)) (upd H1 p2 (.tup [.str "undo", .str "redo", .str "send"]))
        else 3 ≤ sizeLine ∧ ∀ p2, H1 p2 = none → ∃ x, (SqL K (upd H1 p2 (.tup [.str "undo", .str "redo", .str "send"])) p2 x ∨ SqT K (upd H1 p2 (.tup [.str "undo", .str "redo", .str "send"])) p2 x) ∧ flatV (.str z) = true ∧ x.all flatV = true ∧ Q (.bl (inV (.str z) x)) (upd H1 p2 (.tup [.str "undo", .str "redo", .str "send"])) := fun n1 => by
      refine ⟨_, hS, .str a, at0, rfl, ite2 (fun h1 => ⟨_, .inl hS, ite2 (fun h3 => ?_) (fun h3 => last n1 fun ⟨_, e⟩ => h2 (n := 0) h3 e)⟩) (fun h1 => last n1 fun ⟨e, _⟩ => h1 (congrArg V.str (Option.some.inj e)))⟩
      have h1 := V.str.inj h1
      have h3 := e2 h3
      obtain ⟨b, rfl⟩ : ∃ b, r = [b] := List.length_eq_one_iff.mp (by simpa using h3)
      refine ⟨_, hS, .str b, at1, by rw [sizeLine_eq]; decide, fun p2 hp2 => ⟨(["free", "wise", "sure"] : List Str).map V.str, .inr (SqT.of upd_same), rfl, all_flat _, ?_⟩⟩
      rw [in_strs]
      refine q0 _ ?_ _ (Evl.Ex.new hp2)
      unfold plainLW
      rw [if_neg n1, if_pos ⟨by rw [h1]; rfl, rfl⟩]
      rfl
    refine ⟨_, hS, .str a, at0, rfl, ite2 (fun h1 => ⟨_, .inl hS, ite2 (fun h3 => ?_) (fun h3 => guard fun ⟨_, e⟩ => h2 (n := 0) h3 e)⟩) (fun h1 => guard fun ⟨e, _⟩ => h1 (congrArg V.str (Option.some.inj e)))⟩
    have h1 := V.str.inj h1
    have h3 := e2 h3
    obtain ⟨b, rfl⟩ : ∃ b, r = [b] := List.length_eq_one_iff.mp (by simpa using h3)
    refine ⟨_, hS, .str b, at1, by rw [sizeLine_eq]; decide, fun p2 hp2 => ⟨QS.map V.str, .inr (SqT.of upd_same), rfl, all_flat _, ?_⟩⟩
    rw [in_strs]
    refine q0 _ ?_ _ (Evl.Ex.new hp2)
    unfold plainLW
    rw [if_pos ⟨by rw [h1]; rfl, rfl⟩]
    rfl
theorem ok__law_is_opening (T : Txt K mg) : FnOk Pg w K mg base CX0 1 T.a__law_is_opening T.d__law_is_opening ["line"] (spB openL) := by
  refine T.f__law_is_opening.ok sc__law_is_opening (fun vs H Q E h => ?_) (fun cdv A outer s H vs Q E hr h => ?_)
  · obtain ⟨z, rfl, _⟩ := h
    rfl
  · obtain ⟨z, rfl, hz, q⟩ := h
    refine ⟨_, (pss_cons (ps_set (i := 1) sc__law_is_opening.nd rfl (Or.inl rfl) (pe_split (pv 0) pe_str))
  (pss_cons (ps_if (PW.pt (pw_and (pt_cmpR op_eq (pe_ix (r := rIxL K) ix_list (pv 1) pe_int (fun _ _ => rfl)) pe_str (nomark _)) (pw_and1 (pt_cmpR op_eq (pe_callB call_len_seq (by rfl) T.z_len PySem.boot_len (pa_cons (pv 1) pa_nil)) pe_int (nomark _)))))
  (pss_one (ps_ret (pe_cmpR op_in_seq (pe_ix (r := rIxL K) ix_list (pv 1) pe_int (fun _ _ => rfl)) (pe_tup (pa_cons pe_str (pa_cons pe_str (pa_cons pe_str (pa_cons pe_str pa_nil))))) rfl)))
  pss_nil)
  (pss_cons (ps_if (PW.pt (pw_and (pt_cmpR op_eq (pe_ix (r := rIxL K) ix_list (pv 1) pe_int (fun _ _ => rfl)) pe_str (nomark _)) (pw_and1 (pt_cmpR op_eq (pe_callB call_len_seq (by rfl) T.z_len PySem.boot_len (pa_cons (pv 1) pa_nil)) pe_int (nomark _)))))
  (pss_one (ps_ret (pe_cmpR op_in_seq (pe_ix (r := rIxL K) ix_list (pv 1) pe_int (fun _ _ => rfl)) (pe_tup (pa_cons pe_str (pa_cons pe_str (pa_cons pe_str (pa_cons pe_str (pa_cons pe_str (pa_cons pe_str (pa_cons pe_str (pa_cons pe_str (pa_cons pe_str (pa_cons pe_str pa_nil))))))))))) rfl)))
  pss_nil)
  (pss_one (ps_ret (pe_cmpR op_eq (pv 0) pe_str (nomark _))))))), ?_⟩
    walk_at "rd"
    refine ⟨rfl, sz2 hz, fun p hp => ?_⟩
    have eS : (upd H p (.lst ((Txt.split z sp1).map V.str))) p = some (.lst ((Txt.split z sp1).map V.str)) := upd_same
    have s1 : Same H (upd H p (.lst ((Txt.split z sp1).map V.str))) := Evl.Ex.new hp
    have q0 : ∀ b, openLW z (Txt.split z sp1) = b → ∀ H', Same (upd H p (.lst ((Txt.split z sp1).map V.str))) H' → Q (.bl b) H' := fun b e H' k => e ▸ q H' (s1.trans k)
    have pos := split_pos z sp1
    change ∃ x, SqL K (upd H p (.lst ((Txt.split z sp1).map V.str))) p x ∧ _
    have ew : Txt.split z (Str.ofString " ") = Txt.split z sp1 := rfl
    rw [ew]
    generalize Txt.split z sp1 = ws at *
    generalize upd H p (.lst (ws.map V.str)) = H1 at *
    match ws, pos with
    | a :: r, _ =>
    have hS : SqL K H1 p ((a :: r).map V.str) := SqL.of eS
    have h2 : ¬ ((((a :: r).map V.str).length : Nat) : Int) = 2 → ¬ (a :: r).length = 2 := fun h e => h (by rw [List.length_map, e]; rfl)
    have e2 : ((((a :: r).map V.str).length : Nat) : Int) = 2 → (a :: r).length = 2 := fun h => by
      rw [List.length_map] at h
      omega
    have fin : ¬ ((a :: r)[0]? = some ("if" : Str) ∧ (a :: r).length = 2) → ¬ ((a :: r)[0]? = some ("again" : Str) ∧ (a :: r).length = 2) → Q (.bl (decide (z = "all"))) H1 := fun n1 n2 => q0 _ (by unfold openLW; rw [if_neg n1, if_neg n2]) _ (Same.refl _)
    have again : ∀ n1 : ¬ ((a :: r)[0]? = some ("if" : Str) ∧ (a :: r).length = 2), ∃ x, SqL K H1 p x ∧ ∃ x_2, atI x 0 = some x_2 ∧ scal x_2 (V.str "again") = true ∧ if x_2 = V.str "again" then ∃ x, (SqL K H1 p x ∨ SqT K H1 p x) ∧ if (x.length : Int) = 2 then ∃ x, SqL K H1 p x ∧ ∃ x_3, atI x 1 = some x_3 ∧ 10 ≤ sizeLine ∧ ∀ p2, H1 p2 = none → ∃ x, (SqL K (upd H1 p2 (.tup [.str "0", .str "1", .str "2", .str "3", .str "4", .str "5", .str "6", .str "7", .str "8", .str "9"])) p2 x ∨ SqT K (upd H1 p2 (.tup [.str "0", .str "1", .str "2", .str "3", .str "4", .str "5", .str "6", .str "7", .str "8", .str "9"])) p2 x) ∧ flatV x_3 = true ∧ x.all flatV = true ∧ Q (.bl (inV x_3 x)) (upd H1 p2 (.tup [.str "0", .str "1", .str "2", .str "3", .str "4", .str "5", .str "6", .str "7", .str "8", .str "9"]))
        else Q (.bl (decide (z = "all"))) H1 else Q (.bl (decide (z = "all"))) H1 := fun n1 => by
      refine ⟨_, hS, .str a, at0, rfl, ite2 (fun h1 => ⟨_, .inl hS, ite2 (fun h3 => ?_) (fun h3 => fin n1 fun ⟨_, e⟩ => h2 h3 e)⟩) (fun h1 => fin n1 fun ⟨e, _⟩ => h1 (congrArg V.str (Option.some.inj e)))⟩
      have h1 := V.str.inj h1
      have h3 := e2 h3
      obtain ⟨b, rfl⟩ : ∃ b, r = [b] := List.length_eq_one_iff.mp (by simpa using h3)
      refine ⟨_, hS, .str b, at1, by rw [sizeLine_eq]; decide, fun p2 hp2 => ⟨(["0", "1", "2", "3", "4", "5", "6", "7", "8", "9"] : List Str).map V.str, .inr (SqT.of upd_same), rfl, all_flat _, ?_⟩⟩
      rw [in_strs]
      refine q0 _ ?_ _ (Evl.Ex.new hp2)
      unfold openLW
      rw [if_neg n1, if_pos ⟨by rw [h1]; rfl, rfl⟩]
      rfl
    refine ⟨_, hS, .str a, at0, rfl, ite2 (fun h1 => ⟨_, .inl hS, ite2 (fun h3 => ?_) (fun h3 => again fun ⟨_, e⟩ => h2 h3 e)⟩) (fun h1 => again fun ⟨e, _⟩ => h1 (congrArg V.str (Option.some.inj e)))⟩
    have h1 := V.str.inj h1
    have h3 := e2 h3
    obtain ⟨b, rfl⟩ : ∃ b, r = [b] := List.length_eq_one_iff.mp (by simpa using h3)
    refine ⟨_, hS, .str b, at1, by rw [sizeLine_eq]; decide, fun p2 hp2 => ⟨(["sure", "open", "dead", "unfair"] : List Str).map V.str, .inr (SqT.of upd_same), rfl, all_flat _, ?_⟩⟩
    rw [in_strs]
    refine q0 _ ?_ _ (Evl.Ex.new hp2)
    unfold openLW
    rw [if_pos ⟨by rw [h1]; rfl, rfl⟩]
    rfl
end
end K89

namespace K89
open PySem PySem.Spec PyProof.Rows L2 Lv
local macro_rules | `(tactic| walk_at "rd") => `(tactic| simp only [spB, r_seq, r_next, r_break, r_cont, r_asg, r_name, r_drop, r_ret, r_retN, r_if, r_var, r_c, r_op, r_un, r_test, r_B, r_and, r_or, r_not, r_andV, r_orV, r_notV, r_ifE, r_nil, r_cons, r_tup, r_lst, r_call, r_CB, r_BM, r_BM0, r_M1, r_M0, r_Sl, r_part, r_nopart, r_chain, r_I0, r_I, r_eq, r_ne, r_U, r_ixL, r_ixT, r_ixS, r_slL, r_slS, r_append, r_pop, r_sub, r_setL, r_cat, r_rep, r_in, r_strs, r_match, r_lc, r_for, r_iStr, r_iList, r_iTup, r_iRng1, r_iRng2, r_iEnumK, sign_inj, r_all, r_tStrs, r_gTup, r_gCons, r_gNil, wipe, cx_K, cx_N, cx_sc, r_stNil, st_start, List.set_cons_zero, List.set_cons_succ, List.getElem?_cons_zero, List.getElem?_cons_succ, Option.some.injEq, V.int.injEq, V.str.injEq, V.bl.injEq, V.ref.injEq, exists_eq_left', exists_eq_left, exists_eq', exists_and_left, true_and, and_true, exists_eq, exists_const, List.cons_append, List.nil_append, List.append_nil, List.cons.injEq, List.map_cons, List.map_nil, List.length_cons, List.length_nil, Nat.reduceAdd, Nat.reduceSub, List.replicate_succ, List.replicate_zero, Bool.not_eq_true', Bool.not_true, Bool.not_false, Bool.false_eq_true, if_true, if_false, ite_true, ite_false, decide_eq_true_eq, sc_ss, sc_ii, sc_bb, reduceCtorEq])
local macro_rules | `(tactic| walk_at "v") => `(tactic| refine ⟨_, rfl, ?_⟩)
local macro_rules | `(tactic| walk_at "sz") => `(tactic| first | exact Nat.le_trans (by assumption) (by decide) | exact Nat.zero_le _ | (rw [sizeLine_eq]; simp <;> omega) | omega)

def nl : Str := "\n"
/-- the lines of a text, each with whether a newline ends it -/
def rowsP (z : Str) : List (Str × Bool) := (Txt.split z nl).dropLast.map (fun x => (x, true)) ++ (if (Txt.split z nl).getLastD Str.empty = Str.empty then [] else [((Txt.split z nl).getLastD Str.empty, false)])
def Row (H : Hp) (v : V) (r : Str × Bool) : Prop := ∃ t, v = .ref t ∧ H t = some (.tup [.str r.1, .bl r.2])
def Rows (H : Hp) (vs : List V) (rs : List (Str × Bool)) : Prop := vs.length = rs.length ∧ ∀ (i : Nat) (v : V) (r : Str × Bool), vs[i]? = some v → rs[i]? = some r → Row H v r
theorem Row.ex {H H' : Hp} {v : V} {r : Str × Bool} (h : Row H v r) (e : Evl.Ex H H') : Row H' v r := by
  obtain ⟨t, rfl, ht⟩ := h
  exact ⟨t, rfl, e t _ ht⟩
theorem Rows.ex {H H' : Hp} {vs : List V} {rs : List (Str × Bool)} (h : Rows H vs rs) (e : Evl.Ex H H') : Rows H' vs rs := ⟨h.1, fun i v r a b => (h.2 i v r a b).ex e⟩
def spLines : Sp := fun vs H Q _ => ∃ z : Str, vs = [.str z] ∧ z.length ≤ 900000 ∧ ∀ H' p vs, Same H H' → H p = none → H' p = some (.lst vs) → Rows H' vs (rowsP z) → Q (.ref p) H'
theorem last_at {α : Type} {l : List α} {d : α} (h : 1 ≤ l.length) : l[l.length - 1]? = some (l.getLastD d) := by
  rw [List.getLastD_eq_getLast?, List.getLast?_eq_getElem?]
  cases e : l[l.length - 1]? with
  | none =>
    have := List.getElem?_eq_none_iff.mp e
    omega
  | some x => rfl
section
variable {w : World} {K : PySem.W.Frag} {mg : Str → Option Value} {base : Heap}
theorem ok_lines_of (T : Txt K mg) : FnOk Pg w K mg base CX0 1 T.a_lines_of T.d_lines_of ["text"] spLines := by
  refine T.f_lines_of.ok sc_lines_of (fun vs H Q E h => ?_) (fun cdv A outer s H vs Q E hr h => ?_)
  · obtain ⟨z, rfl, _⟩ := h
    rfl
  · obtain ⟨z, rfl, hz, q⟩ := h
    refine ⟨_, (pss_cons (ps_set (i := 1) sc_lines_of.nd rfl (Or.inl rfl) (pe_split (pv 0) pe_str))
  (pss_cons (ps_setLc (i := 2) (own := [("piece", 3)]) (g := gName 3) (tt := tYes) (by rfl) sc_lines_of.nd rfl rfl (sw_true rfl rfl rfl (by decide +kernel)) (pi_list (pe_slice sl_list (pv 1) po_none (po_some (pe_un un_neg pe_int)))) (blkOk_by (own := [("piece", 3)]) (N := ["text", "pieces", "rows", "piece"]) (sc := defScope s_lines_of) (by decide +kernel)) (fun _ _ _ _ _ => (pg_name (i := 3) sc_lines_of.nd rfl (Or.inl rfl))) (fun _ _ _ _ _ => pts_nil) (fun _ _ _ _ _ => (pe_tup (pa_cons (pv 3) (pa_cons pe_bl pa_nil)))))
  (pss_cons (ps_if (pt_cmpR op_ne (pe_ix (r := rIxL K) ix_list (pv 1) (pe_un un_neg pe_int) (fun _ _ => rfl)) pe_str (nomark _))
  (pss_one (ps_expr (pe_bm PySem.F.plainAttrs_list PySem.F.slot_list_append PySem.F.type_list_append mt_append (pv 2) (pa_cons (pe_tup (pa_cons (pe_ix (r := rIxL K) ix_list (pv 1) (pe_un un_neg pe_int) (fun _ _ => rfl)) (pa_cons pe_bl pa_nil))) pa_nil))))
  pss_nil)
  (pss_one (ps_ret (pv 2)))))), ?_⟩
    walk_at "rd"
    refine ⟨rfl, sz2 (by omega), fun p hp => ?_⟩
    have eS : (upd H p (.lst ((Txt.split z nl).map V.str))) p = some (.lst ((Txt.split z nl).map V.str)) := upd_same
    have s1 : Same H (upd H p (.lst ((Txt.split z nl).map V.str))) := Evl.Ex.new hp
    have pos := split_pos z nl
    have many := split_le z nl
    change ∃ x, SqL K (upd H p (.lst ((Txt.split z nl).map V.str))) p x ∧ _
    have ew : Txt.split z (Str.ofString "\n") = Txt.split z nl := rfl
    rw [ew]
    unfold rowsP at q
    generalize Txt.split z nl = ws at *
    generalize upd H p (.lst (ws.map V.str)) = H1 at *
    have hS : SqL K H1 p (ws.map V.str) := SqL.of eS
    refine ⟨_, hS, fun p2 hp2 => ?_⟩
    rw [cutV_init]
    have s2 : Same H1 (upd H1 p2 (.lst (ws.map V.str).dropLast)) := Evl.Ex.new hp2
    have hS2 : SqL K (upd H1 p2 (.lst (ws.map V.str).dropLast)) p2 (ws.map V.str).dropLast := SqL.of upd_same
    generalize upd H1 p2 (.lst (ws.map V.str).dropLast) = H2 at *
    refine ⟨⟨_, hS2⟩, ?_⟩
    have ed : (ws.map V.str).dropLast = ws.dropLast.map V.str := by rw [List.map_dropLast]
    rw [ed] at hS2
    have hl2 : ws.dropLast.length = ws.length - 1 := List.length_dropLast
    refine lc_listR (xs := ws.dropLast.map V.str) (fun i v G => ∀ r, (ws.dropLast.map (fun x => (x, true)))[i]? = some r → Row G v r) (fun i v H1 H2 h e r hr => (h r hr).ex e) hS2 (by rw [List.length_map]; omega) (fun _ => rfl) (fun i x H3 e3 hx QQ qq => ?_) fun D H3 us hD e3 hlen hR hD' => ?_
    · walk_at "rd"
      refine ⟨by rw [sizeLine_eq]; decide, fun t ht => ?_⟩
      obtain ⟨y, hy, rfl⟩ : ∃ y, ws.dropLast[i]? = some y ∧ x = .str y := by
        rw [List.getElem?_map] at hx
        cases e : ws.dropLast[i]? with
        | none => rw [e] at hx; cases hx
        | some y => rw [e] at hx; exact ⟨y, rfl, (Option.some.inj hx).symm⟩
      refine qq (.ref t) _ (fun b => if b = t then some (.tup [.str y, .bl true]) else none) (Evl.Ex.new ht) (fun a o h => ?_) (fun r hr => ?_)
      · by_cases ea : a = t
        · subst ea
          rw [if_pos rfl] at h
          cases h
          exact ⟨ht, upd_same⟩
        · rw [if_neg ea] at h
          cases h
      · rw [List.getElem?_map, hy] at hr
        have er : r = (y, true) := (Option.some.inj hr).symm
        subst er
        exact ⟨t, rfl, if_pos rfl⟩
    · have hS3 : SqL K H3 p (ws.map V.str) := (s2.trans e3).seq hS
      have kk : Same H H3 := s1.trans (s2.trans e3)
      have hpD : p ≠ D := fun z => by
        rw [← z] at hD
        rw [s2 p _ eS] at hD
        cases hD
      have hla : atI (ws.map V.str) (-1) = some (.str (ws.getLastD Str.empty)) := ati_last (by rw [List.length_map, List.getElem?_map, last_at (d := Str.empty) pos]; rfl)
      have hlen' : us.length = (ws.dropLast.map (fun x => (x, true))).length := by rw [hlen, List.length_map, List.length_map]
      have hDf : H D = none := (s1.trans s2).free hD
      walk_at "rd"
      refine ⟨_, hS3, _, hla, rfl, ite2 (fun h => ?c) (fun h => ?b)⟩
      case b =>
        have h' : ws.getLastD Str.empty = Str.empty := V.str.inj (of_decide_eq_true ((Bool.not_eq_false _).mp h))
        rw [if_pos h', List.append_nil] at q
        exact q H3 D us kk hDf hD' ⟨hlen', fun i v r a b => (hR i v a r b).ex hid_ex⟩
      case c =>
        have h' : ¬ ws.getLastD Str.empty = Str.empty := fun e => (of_decide_eq_false h) (congrArg V.str e)
        rw [if_neg h'] at q
        refine ⟨.inl ⟨rfl, _, SqL.of hD'⟩, _, hS3, _, hla, by rw [sizeLine_eq]; decide, fun t ht => ?_⟩
        have htD : D ≠ t := fun z => by
          rw [← z, hD'] at ht
          cases ht
        refine ⟨us, by rw [upd_ne htD]; exact hD', by rw [hlen', List.length_map, hl2, sizeLine_eq]; omega, ?_⟩
        have hx : ∀ b o, hid H3 D b = some o → (upd (upd H3 t (.tup [.str (ws.getLastD Str.empty), .bl false])) D (.lst (us ++ [.ref t]))) b = some o := fun b o hb => by
          obtain ⟨h1, h2⟩ := hid_some hb
          rw [upd_ne h1, upd_ne (ne_of_none h2 ht)]
          exact h2
        refine q _ D (us ++ [.ref t]) (fun b o hb => ?_) hDf upd_same ⟨by rw [List.length_append, List.length_append, hlen']; rfl, fun i v r a b => ?_⟩
        · rw [upd_ne (ne_of_none hb hDf), upd_ne (ne_of_none (kk b o hb) ht)]
          exact kk b o hb
        · by_cases hi : i < us.length
          · rw [List.getElem?_append_left hi] at a
            rw [List.getElem?_append_left (by rw [← hlen']; exact hi)] at b
            exact (hR i v a r b).ex hx
          · have hlt := (List.getElem?_eq_some_iff.mp a).1
            have hi' : i = us.length := by
              rw [List.length_append] at hlt
              have : ([V.ref t] : List V).length = 1 := rfl
              omega
            subst hi'
            rw [List.getElem?_append_right (Nat.le_refl _), Nat.sub_self] at a
            rw [hlen', List.getElem?_append_right (Nat.le_refl _), Nat.sub_self] at b
            have ev : V.ref t = v := Option.some.inj a
            have er : (ws.getLastD Str.empty, false) = r := Option.some.inj b
            subst ev
            subst er
            exact ⟨t, rfl, by rw [upd_ne htD.symm, upd_same]⟩
end
end K89

namespace K89
open PySem PySem.Spec PyProof.Rows L2 Lv
/-! ### data -/
inductive Dt where
  | s (z : Str)
  | i (n : Int)
  | b (x : Bool)
  | l (ds : List Dt)
  | t (ds : List Dt)
mutual
inductive Is (H : Hp) : V → Dt → Prop
  | s {z} : Is H (.str z) (.s z)
  | i {n} : Is H (.int n) (.i n)
  | b {x} : Is H (.bl x) (.b x)
  | l {a vs ds} : H a = some (.lst vs) → IsL H vs ds → Is H (.ref a) (.l ds)
  | t {a vs ds} : H a = some (.tup vs) → IsL H vs ds → Is H (.ref a) (.t ds)
inductive IsL (H : Hp) : List V → List Dt → Prop
  | nil : IsL H [] []
  | cons {v d vs ds} : Is H v d → IsL H vs ds → IsL H (v :: vs) (d :: ds)
end
theorem Is.ex {H H' : Hp} {v : V} {d : Dt} (h : Is H v d) (e : Evl.Ex H H') : Is H' v d :=
  Is.rec (motive_1 := fun v d _ => Is H' v d) (motive_2 := fun vs ds _ => IsL H' vs ds) .s .i .b (fun h _ r => .l (e _ _ h) r) (fun h _ r => .t (e _ _ h) r) .nil (fun _ _ r q => .cons r q) h
theorem IsL.ex {H H' : Hp} {v : List V} {d : List Dt} (h : IsL H v d) (e : Evl.Ex H H') : IsL H' v d :=
  IsL.rec (motive_1 := fun v d _ => Is H' v d) (motive_2 := fun vs ds _ => IsL H' vs ds) .s .i .b (fun h _ r => .l (e _ _ h) r) (fun h _ r => .t (e _ _ h) r) .nil (fun _ _ r q => .cons r q) h
theorem IsL.len {H : Hp} : ∀ {vs : List V} {ds : List Dt}, IsL H vs ds → vs.length = ds.length
  | _, _, .nil => rfl
  | _, _, .cons _ r => by rw [List.length_cons, List.length_cons, r.len]
theorem IsL.snoc {H : Hp} {v : V} {d : Dt} (h : Is H v d) : ∀ {vs : List V} {ds : List Dt}, IsL H vs ds → IsL H (vs ++ [v]) (ds ++ [d])
  | _, _, .nil => .cons h .nil
  | _, _, .cons a r => .cons a (r.snoc h)
theorem IsL.at {H : Hp} : ∀ {vs : List V} {ds : List Dt} (i : Nat) {v : V}, IsL H vs ds → vs[i]? = some v → ∃ d, ds[i]? = some d ∧ Is H v d
  | _, _, i, v, .nil, h => by simp at h
  | _, _, 0, v, .cons a r, h => by
    cases h
    exact ⟨_, rfl, a⟩
  | _, _, i + 1, v, .cons a r, h => by
    obtain ⟨d, hd, q⟩ := r.at i (v := v) (by simpa using h)
    exact ⟨d, by simpa using hd, q⟩
theorem IsL.uncons {H : Hp} {vs : List V} {d : Dt} {ds : List Dt} (h : IsL H vs (d :: ds)) : ∃ v us, vs = v :: us ∧ Is H v d ∧ IsL H us ds := by
  cases h with
  | cons a r => exact ⟨_, _, rfl, a, r⟩
theorem IsL.un0 {H : Hp} {vs : List V} (h : IsL H vs []) : vs = [] := by
  cases h
  rfl
theorem Is.un_l {H : Hp} {v : V} {ds : List Dt} (h : Is H v (.l ds)) : ∃ a vs, v = .ref a ∧ H a = some (.lst vs) ∧ IsL H vs ds := by
  cases h with
  | l a b => exact ⟨_, _, rfl, a, b⟩
theorem Is.un_t {H : Hp} {v : V} {ds : List Dt} (h : Is H v (.t ds)) : ∃ a vs, v = .ref a ∧ H a = some (.tup vs) ∧ IsL H vs ds := by
  cases h with
  | t a b => exact ⟨_, _, rfl, a, b⟩
theorem IsL.app {H : Hp} {ys : List V} {es : List Dt} (h2 : IsL H ys es) : ∀ {xs : List V} {ds : List Dt}, IsL H xs ds → IsL H (xs ++ ys) (ds ++ es)
  | _, _, .nil => h2
  | _, _, .cons a r => .cons a (IsL.app h2 r)
/-! ### the mirror of read_script -/
def inAll (ops : List (Str × Int)) : Bool := match ops with | [] => false | o :: _ => decide (o.1 = "all")
def rLine (n : Int) (x : Str) (ls : List (List Dt)) (ops : List (Str × Int)) : Option (List (List Dt) × List (Str × Int)) :=
  if x = "end" ∧ ops ≠ [] then (match ls, ops with | p :: q :: r, o :: os => some ((q ++ [.t [.s o.1, .l p]]) :: r, os) | _, _ => none)
  else if deedP x = true ∨ (plainP x = true ∧ inAll ops = false) then (match ls with | p :: r => some ((p ++ [.s x]) :: r, ops) | [] => none)
  else if openP x = true ∧ inAll ops = false ∧ ops.length < 4 then some ([] :: ls, (x, n) :: ops) else none
def rRun : Nat → List (Str × Bool) → List (List Dt) → List (Str × Int) → Except Int (List Dt)
  | _, [], ls, o :: _ => .error o.2
  | _, [], ls, [] => .ok (ls.getD 0 [])
  | n, (_, false) :: _, _, _ => .error n
  | n, (x, true) :: r, ls, ops => match rLine n x ls ops with | none => .error n | some (ls', ops') => rRun (n + 1) r ls' ops'
/-- the sizes of the state after i lines -/
def Fit (i : Nat) (ls : List (List Dt)) (ops : List (Str × Int)) : Prop := (∀ p ∈ ls, p.length ≤ i) ∧ ls.length = ops.length + 1 ∧ ops.length ≤ 4
theorem Fit.up {i : Nat} {ls : List (List Dt)} {ops : List (Str × Int)} (h : Fit i ls ops) : ∀ p ∈ ls, p.length ≤ i + 1 := fun p hp => Nat.le_succ_of_le (h.1 p hp)
theorem Fit.leaf {i : Nat} {p : List Dt} {r : List (List Dt)} {ops : List (Str × Int)} {d : Dt} (h : Fit i (p :: r) ops) : Fit (i + 1) ((p ++ [d]) :: r) ops := ⟨fun q hq => by
  rcases List.mem_cons.mp hq with e | e
  · subst e
    have := h.1 p (by simp)
    rw [List.length_append]
    exact Nat.succ_le_succ this
  · exact h.up q (List.mem_cons_of_mem _ e), h.2.1, h.2.2⟩
theorem Fit.push {i : Nat} {ls : List (List Dt)} {ops : List (Str × Int)} {o : Str × Int} (h : Fit i ls ops) (hl : ops.length < 4) : Fit (i + 1) ([] :: ls) (o :: ops) := ⟨fun q hq => by
  rcases List.mem_cons.mp hq with e | e
  · subst e
    exact Nat.zero_le _
  · exact h.up q e, by rw [List.length_cons, List.length_cons, h.2.1], hl⟩
theorem Fit.close {i : Nat} {p q : List Dt} {r : List (List Dt)} {o : Str × Int} {os : List (Str × Int)} {d : Dt} (h : Fit i (p :: q :: r) (o :: os)) : Fit (i + 1) ((q ++ [d]) :: r) os :=
  Fit.leaf (r := r) ⟨fun x hx => h.1 x (List.mem_cons_of_mem _ hx), Nat.succ.inj h.2.1, Nat.le_of_succ_le h.2.2⟩
/-! ### the heap while it reads -/
def Opn (G H : Hp) : List Addr → List (List Dt) → Prop
  | [], [] => True
  | a :: as, p :: ls => (∃ vs, H a = some (.lst vs) ∧ IsL G vs p) ∧ Opn G H as ls
  | _, _ => False
def Ops (G : Hp) : List Addr → List (Str × Int) → Prop
  | [], [] => True
  | o :: os, q :: r => G o = some (.tup [.str q.1, .int q.2]) ∧ Ops G os r
  | _, _ => False
theorem Opn.mono {G G' H H' : Hp} (e : Evl.Ex G G') : ∀ {as : List Addr} {ls : List (List Dt)}, (∀ a ∈ as, ∀ o, H a = some o → H' a = some o) → Opn G H as ls → Opn G' H' as ls
  | [], [], _, _ => trivial
  | a :: as, p :: ls, k, ⟨⟨vs, h1, h2⟩, r⟩ => ⟨⟨vs, k a (by simp) _ h1, h2.ex e⟩, r.mono e fun x hx => k x (List.mem_cons_of_mem _ hx)⟩
  | [], _ :: _, _, h => h.elim
  | _ :: _, [], _, h => h.elim
theorem Ops.mono {G G' : Hp} (e : Evl.Ex G G') : ∀ {os : List Addr} {ops : List (Str × Int)}, Ops G os ops → Ops G' os ops
  | [], [], _ => trivial
  | a :: as, p :: ls, ⟨h1, r⟩ => ⟨e _ _ h1, r.mono e⟩
  | [], _ :: _, h => h.elim
  | _ :: _, [], h => h.elim
theorem Opn.len {G H : Hp} : ∀ {as : List Addr} {ls : List (List Dt)}, Opn G H as ls → as.length = ls.length
  | [], [], _ => rfl
  | a :: as, p :: ls, h => by rw [List.length_cons, List.length_cons, h.2.len]
  | [], _ :: _, h => h.elim
  | _ :: _, [], h => h.elim
theorem Ops.len {G : Hp} : ∀ {as : List Addr} {ls : List (Str × Int)}, Ops G as ls → as.length = ls.length
  | [], [], _ => rfl
  | a :: as, p :: ls, h => by rw [List.length_cons, List.length_cons, h.2.len]
  | [], _ :: _, h => h.elim
  | _ :: _, [], h => h.elim
structure Inv (G0 H : Hp) (L O : Addr) (ls : List (List Dt)) (ops : List (Str × Int)) (G : Hp) (as os : List Addr) : Prop where
  e0 : Evl.Ex G0 G
  e1 : Evl.Ex G H
  hL : H L = some (.lst (as.reverse.map V.ref))
  hO : H O = some (.lst (os.reverse.map V.ref))
  opn : Opn G H as ls
  ops : Ops G os ops
  fr : ∀ x ∈ L :: O :: as, G x = none
  nd : (L :: O :: as).Nodup
section
variable {G0 H G : Hp} {L O : Addr} {ls r : List (List Dt)} {ops os' : List (Str × Int)} {as os : List Addr} {p q : List Dt}
theorem Inv.ex {H' : Hp} (h : Inv G0 H L O ls ops G as os) (e : Evl.Ex H H') : Inv G0 H' L O ls ops G as os :=
  ⟨h.e0, h.e1.trans e, e _ _ h.hL, e _ _ h.hO, h.opn.mono (Evl.Ex.refl _) fun a _ o k => e _ _ k, h.ops, h.fr, h.nd⟩
theorem Inv.last (h : Inv G0 H L O (p :: r) ops G as os) : ∃ a as' vs, as = a :: as' ∧ (as.reverse.map V.ref)[(as.reverse.map V.ref).length - 1]? = some (.ref a) ∧ H a = some (.lst vs) ∧ vs.length = p.length ∧ IsL G vs p := by
  match as, h.opn with
  | a :: as', ⟨⟨vs, h1, h2⟩, _⟩ => exact ⟨a, as', vs, rfl, by simp, h1, h2.len, h2⟩
theorem Inv.leaf {a : Addr} {as' : List Addr} {vs : List V} {v : V} {d : Dt} (h : Inv G0 H L O (p :: r) ops G (a :: as') os) (ha : H a = some (.lst vs)) (hv : Is G v d) :
    Inv G0 (upd H a (.lst (vs ++ [v]))) L O ((p ++ [d]) :: r) ops G (a :: as') os := by
  have fa : G a = none := h.fr a (by simp)
  have n1 : L ≠ a := fun z => by
    have := h.nd
    simp [z] at this
  have n2 : O ≠ a := fun z => by
    have := h.nd
    simp [z] at this
  have n3 : ∀ x ∈ as', x ≠ a := fun x hx z => by
    have := h.nd
    simp [← z, hx] at this
  obtain ⟨⟨vs', h1, h2⟩, ho⟩ := h.opn
  rw [ha] at h1
  cases h1
  refine ⟨h.e0, Evl.Ex.mut h.e1 fa, by rw [upd_ne n1]; exact h.hL, by rw [upd_ne n2]; exact h.hO, ⟨⟨vs ++ [v], upd_same, h2.snoc hv⟩, ho.mono (Evl.Ex.refl _) fun x hx o k => ?_⟩, h.ops, h.fr, h.nd⟩
  rw [upd_ne (n3 x hx)]
  exact k
/-- the opening's tuple T, the new list a -/
theorem Inv.push {x : Str} {n : Int} {T a : Addr} (h : Inv G0 H L O ls ops G as os) (hT : H T = none) (ha : upd (upd H T (.tup [.str x, .int n])) O (.lst (os.reverse.map V.ref ++ [.ref T])) a = none) :
    Inv G0 (upd (upd (upd (upd H T (.tup [.str x, .int n])) O (.lst (os.reverse.map V.ref ++ [.ref T]))) a (.lst [])) L (.lst (as.reverse.map V.ref ++ [.ref a]))) L O ([] :: ls) ((x, n) :: ops) (upd G T (.tup [.str x, .int n])) (a :: as) (T :: os) := by
  have nLT : L ≠ T := ne_of_none h.hL hT
  have nOT : O ≠ T := ne_of_none h.hO hT
  have nLO : L ≠ O := fun z => by
    have := h.nd
    simp [z] at this
  have naO : a ≠ O := fun z => by
    rw [z, upd_same] at ha
    cases ha
  rw [upd_ne naO] at ha
  have naT : a ≠ T := fun z => by
    rw [z, upd_same] at ha
    cases ha
  rw [upd_ne naT] at ha
  have naL : a ≠ L := fun z => by
    rw [z, h.hL] at ha
    cases ha
  have fT : G T = none := by
    cases e : G T with
    | none => rfl
    | some o =>
      rw [h.e1 _ _ e] at hT
      cases hT
  have fa : G a = none := by
    cases e : G a with
    | none => rfl
    | some o =>
      rw [h.e1 _ _ e] at ha
      cases ha
  have has : ∀ x ∈ as, H x ≠ none := by
    have := h.opn
    clear h ha hT
    induction as generalizing ls with
    | nil => simp
    | cons y ys ih =>
      cases ls with
      | nil => exact this.elim
      | cons p ps =>
        obtain ⟨⟨vs, h1, _⟩, k⟩ := this
        intro x hx
        rcases List.mem_cons.mp hx with e | e
        · rw [e, h1]
          simp
        · exact ih k x e
  have eG : Evl.Ex G (upd G T (.tup [.str x, .int n])) := Evl.Ex.new fT
  refine ⟨h.e0.trans eG, fun b o hb => ?_, ?_, ?_, ⟨⟨[], ?_, .nil⟩, h.opn.mono eG fun b hb o k => ?_⟩, ⟨upd_same, h.ops.mono eG⟩, fun b hb => ?_, ?_⟩
  · by_cases hbT : b = T
    · subst hbT
      rw [upd_same] at hb
      cases hb
      rw [upd_ne nLT.symm, upd_ne naT.symm, upd_ne nOT.symm, upd_same]
    · rw [upd_ne hbT] at hb
      have hH := h.e1 _ _ hb
      have b1 : b ≠ L := fun z => by
        rw [z, h.fr L (by simp)] at hb
        cases hb
      have b2 : b ≠ O := fun z => by
        rw [z, h.fr O (by simp)] at hb
        cases hb
      rw [upd_ne b1, upd_ne (ne_of_none hH ha), upd_ne b2, upd_ne hbT]
      exact hH
  · rw [upd_same, List.reverse_cons, List.map_append]
    rfl
  · rw [upd_ne nLO.symm, upd_ne naO.symm, upd_same, List.reverse_cons, List.map_append]
    rfl
  · rw [upd_ne naL, upd_same]
  · have b1 : b ≠ L := fun z => by
      have := h.nd
      simp [← z, hb] at this
    have b2 : b ≠ O := fun z => by
      have := h.nd
      simp [← z, hb] at this
    rw [upd_ne b1, upd_ne (ne_of_none k ha), upd_ne b2, upd_ne (ne_of_none k hT)]
    exact k
  · have : b ≠ T := fun z => by
      subst z
      simp only [List.mem_cons] at hb
      rcases hb with e | e | e | e
      · exact nLT e.symm
      · exact nOT e.symm
      · exact naT e.symm
      · exact has _ e hT
    rw [upd_ne this]
    simp only [List.mem_cons] at hb
    rcases hb with e | e | e | e
    · exact e ▸ h.fr L (by simp)
    · exact e ▸ h.fr O (by simp)
    · exact e ▸ fa
    · exact h.fr b (by simp [e])
  · have n := h.nd
    simp only [List.nodup_cons, List.mem_cons, not_or] at n ⊢
    exact ⟨⟨nLO, naL.symm, n.1.2⟩, ⟨naO.symm, n.2.1⟩, fun z => has a z ha, n.2.2⟩
/-- what the closing meets: the last opening o, the last list a, the list a2 ahead of it -/
theorem Inv.two {o : Str × Int} (h : Inv G0 H L O (p :: q :: r) (o :: os') G as os) : ∃ a a2 as' t ts vs vs2, as = a :: a2 :: as' ∧ os = t :: ts ∧ H t = some (.tup [.str o.1, .int o.2]) ∧ H a = some (.lst vs) ∧ H a2 = some (.lst vs2) ∧ IsL G vs p ∧ IsL G vs2 q ∧ L ≠ O ∧ t ≠ L ∧ t ≠ O ∧ a ≠ L ∧ a ≠ O ∧ a2 ≠ L ∧ a2 ≠ O ∧ a ≠ a2 := by
  match as, h.opn, h.nd with
  | a :: a2 :: as', ⟨⟨vs, h1, h2⟩, ⟨vs2, h3, h4⟩, _⟩, nd =>
    match os, h.ops with
    | t :: ts, ⟨g1, _⟩ =>
      have ht := h.e1 _ _ g1
      have nd := nd
      simp only [List.nodup_cons, List.mem_cons, not_or] at nd
      obtain ⟨⟨a1, a2', a3, a4⟩, ⟨b1, b2, b3⟩, ⟨c1, c2⟩, d1, d2⟩ := nd
      exact ⟨a, a2, as', t, ts, vs, vs2, rfl, rfl, ht, h1, h3, h2, h4, a1, (fun z => by rw [z, h.hL] at ht; cases ht), (fun z => by rw [z, h.hO] at ht; cases ht), Ne.symm a2', Ne.symm b1, Ne.symm a3, Ne.symm b2, c1⟩
/-- the tuple T of the closed list -/
theorem Inv.close {o : Str × Int} {a a2 t T : Addr} {as' ts : List Addr} {vs vs2 : List V} (h : Inv G0 H L O (p :: q :: r) (o :: os') G (a :: a2 :: as') (t :: ts)) (ha : H a = some (.lst vs)) (ha2 : H a2 = some (.lst vs2))
    (hT : upd (upd H O (.lst (ts.reverse.map V.ref))) L (.lst ((a2 :: as').reverse.map V.ref)) T = none) :
    Inv G0 (upd (upd (upd (upd H O (.lst (ts.reverse.map V.ref))) L (.lst ((a2 :: as').reverse.map V.ref))) T (.tup [.str o.1, .ref a])) a2 (.lst (vs2 ++ [.ref T]))) L O ((q ++ [.t [.s o.1, .l p]]) :: r) os' (upd (upd G a (.lst vs)) T (.tup [.str o.1, .ref a])) (a2 :: as') ts := by
  have nd := h.nd
  simp only [List.nodup_cons, List.mem_cons, not_or] at nd
  obtain ⟨⟨a1, a2', a3, a4⟩, ⟨b1, b2, b3⟩, ⟨c1, c2⟩, d1, d2⟩ := nd
  have nTL : T ≠ L := fun z => by
    rw [z, upd_same] at hT
    cases hT
  rw [upd_ne nTL] at hT
  have nTO : T ≠ O := fun z => by
    rw [z, upd_same] at hT
    cases hT
  rw [upd_ne nTO] at hT
  have nTa : T ≠ a := fun z => by
    rw [z, ha] at hT
    cases hT
  have nTa2 : T ≠ a2 := fun z => by
    rw [z, ha2] at hT
    cases hT
  have fa : G a = none := h.fr a (by simp)
  have fa2 : G a2 = none := h.fr a2 (by simp)
  have fL : G L = none := h.fr L (by simp)
  have fO : G O = none := h.fr O (by simp)
  have fT : G T = none := by
    cases e : G T with
    | none => rfl
    | some o =>
      rw [h.e1 _ _ e] at hT
      cases hT
  have fT' : upd G a (.lst vs) T = none := by rw [upd_ne nTa]; exact fT
  have eG : Evl.Ex G (upd (upd G a (.lst vs)) T (.tup [.str o.1, .ref a])) := (Evl.Ex.new fa).trans (Evl.Ex.new fT')
  obtain ⟨⟨vs', h1, h2⟩, ⟨vs2', h3, h4⟩, ho⟩ := h.opn
  rw [ha] at h1
  rw [ha2] at h3
  cases h1
  cases h3
  have hasT : ∀ x ∈ as', ∀ u, H x = some u → x ≠ T := fun x _ u k => ne_of_none k hT
  have hal : ∀ x ∈ as', H x ≠ none := by
    clear h hT
    clear hasT
    induction as' generalizing r with
    | nil => simp
    | cons y ys ih =>
      cases r with
      | nil => exact ho.elim
      | cons p ps =>
        obtain ⟨⟨vs, h1, _⟩, k⟩ := ho
        intro x hx
        rcases List.mem_cons.mp hx with e | e
        · rw [e, h1]
          simp
        · simp only [List.mem_cons, not_or] at a4 b3 c2 d1
          exact ih a4.2 b3.2 c2.2 d1.2 (List.nodup_cons.mp d2).2 k x e
  refine ⟨h.e0.trans eG, fun b u hb => ?_, ?_, ?_, ⟨⟨vs2 ++ [.ref T], upd_same, (h4.ex eG).snoc (.t upd_same (.cons .s (.cons (.l ?_ (h2.ex eG)) .nil)))⟩, ho.mono eG fun b hb u k => ?_⟩, h.ops.2.mono eG, fun b hb => ?_, ?_⟩
  · by_cases e1 : b = T
    · subst e1
      rw [upd_same] at hb
      cases hb
      rw [upd_ne nTa2, upd_same]
    · rw [upd_ne e1] at hb
      by_cases e2 : b = a
      · subst e2
        rw [upd_same] at hb
        cases hb
        rw [upd_ne c1, upd_ne e1, upd_ne (Ne.symm a2'), upd_ne (Ne.symm b1)]
        exact ha
      · rw [upd_ne e2] at hb
        have k1 : b ≠ a2 := fun z => by rw [z, fa2] at hb; cases hb
        have k2 : b ≠ L := fun z => by rw [z, fL] at hb; cases hb
        have k3 : b ≠ O := fun z => by rw [z, fO] at hb; cases hb
        rw [upd_ne k1, upd_ne e1, upd_ne k2, upd_ne k3]
        exact h.e1 _ _ hb
  · rw [upd_ne a3, upd_ne nTL.symm, upd_same]
  · rw [upd_ne b2, upd_ne nTO.symm, upd_ne (Ne.symm a1), upd_same]
  · rw [upd_ne nTa.symm, upd_same]
  · have k1 : b ≠ a2 := fun z => d1 (z ▸ hb)
    have k2 : b ≠ L := fun z => a4 (z ▸ hb)
    have k3 : b ≠ O := fun z => b3 (z ▸ hb)
    rw [upd_ne k1, upd_ne (ne_of_none k hT), upd_ne k2, upd_ne k3]
    exact k
  · have hbT : b ≠ T := fun z => by
      subst z
      simp only [List.mem_cons] at hb
      rcases hb with e | e | e | e
      · exact nTL e
      · exact nTO e
      · exact nTa2 e
      · exact hal _ e hT
    have hba : b ≠ a := fun z => by
      subst z
      simp only [List.mem_cons] at hb
      rcases hb with e | e | e | e
      · exact a2' e.symm
      · exact b1 e.symm
      · exact c1 e
      · exact c2 e
    rw [upd_ne hbT, upd_ne hba]
    refine h.fr b ?_
    simp only [List.mem_cons] at hb ⊢
    rcases hb with e | e | e | e
    · exact .inl e
    · exact .inr (.inl e)
    · exact .inr (.inr (.inr (.inl e)))
    · exact .inr (.inr (.inr (.inr e)))
  · simp only [List.nodup_cons, List.mem_cons, not_or]
    exact ⟨⟨a1, a3, a4⟩, ⟨b2, b3⟩, d1, d2⟩
end
end K89

namespace K89
open PySem PySem.Spec PyProof.Rows L2 Lv
local macro_rules | `(tactic| walk_at "rd") => `(tactic| simp only [spB, spLines, tRaiseX, tMkX, r_seq, r_next, r_break, r_cont, r_asg, r_name, r_drop, r_ret, r_retN, r_if, r_var, r_c, r_op, r_un, r_test, r_B, r_and, r_or, r_not, r_andV, r_orV, r_notV, r_ifE, r_nil, r_cons, r_tup, r_lst, r_call, r_CB, r_BM, r_BM0, r_M1, r_M0, r_Sl, r_part, r_nopart, r_chain, r_I0, r_I, r_eq, r_ne, r_U, r_ixL, r_ixT, r_ixS, r_slL, r_slS, r_append, r_pop, r_sub, r_setL, r_cat, r_rep, r_in, r_strs, r_match, r_lc, r_for, r_iStr, r_iList, r_iTup, r_iRng1, r_iRng2, r_iEnumK, sign_inj, r_all, r_tStrs, r_gTup, r_gCons, r_gNil, wipe, cx_K, cx_N, cx_sc, r_stNil, st_start, List.set_cons_zero, List.set_cons_succ, List.getElem?_cons_zero, List.getElem?_cons_succ, Option.some.injEq, V.int.injEq, V.str.injEq, V.bl.injEq, V.ref.injEq, exists_eq_left', exists_eq_left, exists_eq', exists_and_left, true_and, and_true, exists_eq, exists_const, List.cons_append, List.nil_append, List.append_nil, List.cons.injEq, List.map_cons, List.map_nil, List.length_cons, List.length_nil, Nat.reduceAdd, Nat.reduceSub, List.replicate_succ, List.replicate_zero, Bool.not_eq_true', Bool.not_true, Bool.not_false, Bool.false_eq_true, if_true, if_false, ite_true, ite_false, decide_eq_true_eq, sc_ss, sc_ii, sc_bb, reduceCtorEq])
local macro_rules | `(tactic| walk_at "v") => `(tactic| refine ⟨_, rfl, ?_⟩)
local macro_rules | `(tactic| walk_at "sz") => `(tactic| first | exact Nat.le_trans (by assumption) (by decide) | exact Nat.zero_le _ | (rw [sizeLine_eq]; simp <;> omega) | omega)

def spRead (C : Addr) : Sp := fun vs H Q E => ∃ z : Str, vs = [.str z] ∧ z.length ≤ 800000 ∧
  (∀ n, rRun 1 (rowsP z) [[]] [] = .error n → ∀ H' d, Same H H' → H' d = some (.xd [("line", .int n)]) → E (.ref C) (some d) H') ∧
  (∀ ts, rRun 1 (rowsP z) [[]] [] = .ok ts → ∀ H' a, Same H H' → Is H' (.ref a) (.l ts) → Q (.ref a) H')
theorem rows_many (z : Str) : (rowsP z).length ≤ z.length + 2 := by
  unfold rowsP
  have h1 := split_pos z nl
  have h2 := split_le z nl
  rw [List.length_append, List.length_map, List.length_dropLast]
  split <;> simp <;> omega
theorem rows_short {z : Str} {x : Str × Bool} (h : x ∈ rowsP z) : x.1.length ≤ z.length := by
  unfold rowsP at h
  have h1 := split_pos z nl
  rcases List.mem_append.mp h with h | h
  · obtain ⟨y, hy, rfl⟩ := List.mem_map.mp h
    exact part_short (List.dropLast_subset _ hy)
  · split at h
    · cases h
    · have e := List.mem_singleton.mp h
      subst e
      exact part_short (List.mem_of_getElem? (last_at h1))
section
variable {w : World} {K : PySem.W.Frag} {mg : Str → Option Value} {base : Heap}
theorem ok_read_script (T : Txt K mg) : FnOk Pg w K mg base (L2.CX Pg w) 5 T.a_read_script T.d_read_script ["text"] (spRead T.C_BadLine) := by
  have G_lines_of := ok_lines_of (w := w) (base := base) T
  have G_is_deed := ok_is_deed (w := w) (base := base) T
  have G_is_plain := ok_is_plain (w := w) (base := base) T
  have G_is_opening := ok_is_opening (w := w) (base := base) T
  refine T.f_read_script.okX sc_read_script (fun vs H Q E h => ?_) (fun cdv A outer s H vs Q E hr h => ?_)
  · obtain ⟨z, rfl, _⟩ := h
    rfl
  · obtain ⟨z, rfl, hz, qE, qQ⟩ := h
    refine ⟨_, (pss_cons (ps_set (i := 1) sc_read_script.nd rfl (Or.inl rfl) (pe_lst (pa_cons (pe_lst pa_nil) pa_nil)))
  (pss_cons (ps_set (i := 2) sc_read_script.nd rfl (Or.inl rfl) (pe_lst pa_nil))
  (pss_cons (ps_for (passes_of rfl) rfl (pi_enumK (by rfl) T.z_enumerate (by decide) (pa_cons (pe_call G_lines_of (hr.mono (by omega)) (by rfl) T.g_lines_of T.f_lines_of.kp T.b_lines_of .nil pass0 (pa_cons (pv 0) pa_nil)) pa_nil)) (pg_tup (n := 2) rfl (pgs_cons (pg_name (i := 3) sc_read_script.nd rfl (Or.inl rfl)) (pgs_cons (pg_tup (n := 2) rfl (pgs_cons (pg_name (i := 4) sc_read_script.nd rfl (Or.inl rfl)) (pgs_cons (pg_name (i := 5) sc_read_script.nd rfl (Or.inl rfl)) pgs_nil))) pgs_nil)))
  (Evl.pss_cut (ps_set (i := 6) sc_read_script.nd rfl (Or.inl rfl) (pe_and (pe_cmpR op_gt (pe_callB call_len_seq (by rfl) T.z_len PySem.boot_len (pa_cons (pv 2) pa_nil)) pe_int (nomark _)) (pe_one (pe_cmpR op_eq (pe_ix (r := rIxT K) ix_tup (pe_ix (r := rIxL K) ix_list (pv 2) (pe_un un_neg pe_int) (fun _ _ => rfl)) pe_int (fun _ _ => rfl)) (pe_gl rfl T.c_ALL) (nomark _)))))
  (pss_cons (ps_if (pt_not (pt_val (pv 5)))
  (pss_one (ps_raiseX rfl T.x_BadLine hr (takes_of rfl rfl rfl rfl) (pa_cons (pv 3) pa_nil)))
  pss_nil)
  (pss_one (ps_if (PW.pt (pw_and (pt_cmpR op_eq (pv 4) (pe_gl rfl T.c_END) (nomark _)) (pw_and1 (pt_cmpR op_gt (pe_callB call_len_seq (by rfl) T.z_len PySem.boot_len (pa_cons (pv 2) pa_nil)) pe_int (nomark _)))))
  (pss_cons (ps_set (i := 7) sc_read_script.nd rfl (Or.inl rfl) (pe_bm0 PySem.F.plainAttrs_list PySem.F.slot_list_pop PySem.F.type_list_pop mt_pop (pv 2)))
  (pss_cons (ps_set (i := 8) sc_read_script.nd rfl (Or.inl rfl) (pe_bm0 PySem.F.plainAttrs_list PySem.F.slot_list_pop PySem.F.type_list_pop mt_pop (pv 1)))
  (pss_one (ps_expr (pe_bm PySem.F.plainAttrs_list PySem.F.slot_list_append PySem.F.type_list_append mt_append (pe_ix (r := rIxL K) ix_list (pv 1) (pe_un un_neg pe_int) (fun _ _ => rfl)) (pa_cons (pe_tup (pa_cons (pe_ix (r := rIxT K) ix_tup (pv 7) pe_int (fun _ _ => rfl)) (pa_cons (pv 8) pa_nil))) pa_nil))))))
  (pss_one (ps_if (PW.pt (pw_or (pt_val (pe_call G_is_deed (hr.mono (by omega)) (by rfl) T.g_is_deed T.f_is_deed.kp T.b_is_deed .nil pass0 (pa_cons (pv 4) pa_nil))) (pw_or1 (PW.pt (pw_and (pt_val (pe_call G_is_plain (hr.mono (by omega)) (by rfl) T.g_is_plain T.f_is_plain.kp T.b_is_plain .nil pass0 (pa_cons (pv 4) pa_nil))) (pw_and1 (pt_not (pt_val (pv 6)))))))))
  (pss_one (ps_expr (pe_bm PySem.F.plainAttrs_list PySem.F.slot_list_append PySem.F.type_list_append mt_append (pe_ix (r := rIxL K) ix_list (pv 1) (pe_un un_neg pe_int) (fun _ _ => rfl)) (pa_cons (pv 4) pa_nil))))
  (pss_one (ps_if (PW.pt (pw_and (pt_val (pe_call G_is_opening (hr.mono (by omega)) (by rfl) T.g_is_opening T.f_is_opening.kp T.b_is_opening .nil pass0 (pa_cons (pv 4) pa_nil))) (pw_and (pt_not (pt_val (pv 6))) (pw_and1 (pt_cmpR op_lt (pe_callB call_len_seq (by rfl) T.z_len PySem.boot_len (pa_cons (pv 2) pa_nil)) (pe_gl rfl T.c_MOST_DEEP) (nomark _))))))
  (pss_cons (ps_expr (pe_bm PySem.F.plainAttrs_list PySem.F.slot_list_append PySem.F.type_list_append mt_append (pv 2) (pa_cons (pe_tup (pa_cons (pv 4) (pa_cons (pv 3) pa_nil))) pa_nil)))
  (pss_one (ps_expr (pe_bm PySem.F.plainAttrs_list PySem.F.slot_list_append PySem.F.type_list_append mt_append (pv 1) (pa_cons (pe_lst pa_nil) pa_nil)))))
  (pss_one (ps_raiseX rfl T.x_BadLine hr (takes_of rfl rfl rfl rfl) (pa_cons (pv 3) pa_nil))))))))))))
  (pss_cons (ps_if (pt_cmpR op_gt (pe_callB call_len_seq (by rfl) T.z_len PySem.boot_len (pa_cons (pv 2) pa_nil)) pe_int (nomark _))
  (pss_one (ps_raiseX rfl T.x_BadLine hr (takes_of rfl rfl rfl rfl) (pa_cons (pe_ix (r := rIxT K) ix_tup (pe_ix (r := rIxL K) ix_list (pv 2) (pe_un un_neg pe_int) (fun _ _ => rfl)) pe_int (fun _ _ => rfl)) pa_nil)))
  pss_nil)
  (pss_one (ps_ret (pe_ix (r := rIxL K) ix_list (pv 1) pe_int (fun _ _ => rfl)))))))), ?_⟩
    walk_at "rd"
    refine ⟨Nat.zero_le _, fun a0 ha0 => ⟨by rw [sizeLine_eq]; decide, fun L hL => ⟨Nat.zero_le _, fun O hO => ⟨by omega, fun H1 p vs s1 hp hp1 hrows => ⟨_, SqL.of hp1, ?_⟩⟩⟩⟩⟩
    have nO : O ≠ L := fun z => by rw [z, upd_same] at hO; cases hO
    rw [upd_ne nO] at hO
    have nOa : O ≠ a0 := fun z => by rw [z, upd_same] at hO; cases hO
    rw [upd_ne nOa] at hO
    have nLa : L ≠ a0 := fun z => by rw [z, upd_same] at hL; cases hL
    rw [upd_ne nLa] at hL
    have gO : H1 O = some (.lst []) := s1 O _ upd_same
    have gL : H1 L = some (.lst [.ref a0]) := s1 L _ (by rw [upd_ne nO.symm, upd_same])
    have ga : H1 a0 = some (.lst []) := s1 a0 _ (by rw [upd_ne nOa.symm, upd_ne nLa.symm, upd_same])
    have sH : Same H H1 := fun b o hb => s1 b o (by rw [upd_ne (ne_of_none hb hO), upd_ne (ne_of_none hb hL), upd_ne (ne_of_none hb ha0)]; exact hb)
    have npO : p ≠ O := fun z => by rw [z, upd_same] at hp; cases hp
    rw [upd_ne npO] at hp
    have npL : p ≠ L := fun z => by rw [z, upd_same] at hp; cases hp
    rw [upd_ne npL] at hp
    have npa : p ≠ a0 := fun z => by rw [z, upd_same] at hp; cases hp
    -- what stays
    obtain ⟨G0, hG0⟩ : ∃ G0 : Hp, G0 = fun b => if b = L ∨ b = O ∨ b = a0 then none else H1 b := ⟨_, rfl⟩
    have g0 : ∀ b, b ≠ L → b ≠ O → b ≠ a0 → G0 b = H1 b := fun b h1 h2 h3 => by rw [hG0]; exact if_neg (by simp [h1, h2, h3])
    have e00 : Evl.Ex H G0 := fun b o hb => by rw [g0 b (ne_of_none hb hL) (ne_of_none hb hO) (ne_of_none hb ha0)]; exact sH b o hb
    have e01 : Evl.Ex G0 H1 := fun b o hb => by
      rw [hG0] at hb
      change (if b = L ∨ b = O ∨ b = a0 then none else H1 b) = some o at hb
      by_cases c : b = L ∨ b = O ∨ b = a0
      · rw [if_pos c] at hb; cases hb
      · rw [if_neg c] at hb; exact hb
    have gp : G0 p = some (.lst vs) := by rw [g0 p npL npO npa]; exact hp1
    have hrow0 : Rows G0 vs (rowsP z) := ⟨hrows.1, fun i v r h1 h2 => by
      obtain ⟨t, rfl, ht⟩ := hrows.2 i v r h1 h2
      refine ⟨t, rfl, ?_⟩
      rw [g0 t (fun z => by rw [z, gL] at ht; cases ht) (fun z => by rw [z, gO] at ht; cases ht) (fun z => by rw [z, ga] at ht; cases ht)]
      exact ht⟩
    have I0 : Inv G0 H1 L O [[]] [] G0 [a0] [] := ⟨Evl.Ex.refl _, e01, gL, gO, ⟨⟨[], ga, .nil⟩, trivial⟩, trivial, fun x hx => by
      rw [hG0]
      simp only [List.mem_cons, List.not_mem_nil, or_false] at hx
      exact if_pos hx, by simp [nO.symm, nLa, nOa]⟩
    have many := rows_many z
    have short := fun x h => rows_short (z := z) (x := x) h
    generalize rowsP z = rows at *
    clear hrows hG0 g0 s1 gO gL ga hL hO hp ha0 npO npL npa nO nOa nLa hp1
    have hlen := hrow0.1
    obtain ⟨Pv, hPv⟩ := opq3 fun (i : Nat) (σ : L2.St) (H2 : Hp) => ∃ ls ops G as os x3 x4 x5 x6 x7 x8, σ = [some (.str z), some (.ref L), some (.ref O), x3, x4, x5, x6, x7, x8] ∧ Inv G0 H2 L O ls ops G as os ∧ Fit i ls ops ∧ rRun 1 rows [[]] [] = rRun (1 + i) (rows.drop i) ls ops
    refine f_enumK (xs := vs) Pv ((hPv _ _ _).mpr ⟨[[]], [], G0, [a0], [], none, none, none, none, none, none, rfl, I0, ⟨fun p hp => by simp at hp; subst hp; exact Nat.zero_le _, rfl, by decide⟩, by simp⟩) (fun i σ H2 _ p => ?_) (fun i x t σ H2 hi p ht => ?_) (fun σ H2 p => ?_)
    · obtain ⟨ls, ops, G, as, os, x3, x4, x5, x6, x7, x8, rfl, I, fit, er⟩ := (hPv _ _ _).mp p
      exact SqL.of (I.e1 _ _ (I.e0 _ _ gp))
    · obtain ⟨ls, ops, G, as, os, x3, x4, x5, x6, x7, x8, rfl, I, fit, er⟩ := (hPv _ _ _).mp p
      have hil : i < rows.length := by
        have := (List.getElem?_eq_some_iff.mp hi).1
        omega
      obtain ⟨⟨line, ended⟩, hr2⟩ : ∃ r, rows[i]? = some r := ⟨_, List.getElem?_eq_getElem hil⟩
      obtain ⟨T2, rfl, hT2⟩ := hrow0.2 i x _ hi hr2
      have er : rRun 1 rows [[]] [] = rRun (1 + i) ((line, ended) :: rows.drop (i + 1)) ls ops := by
        rw [er, List.drop_eq_getElem_cons hil]
        congr
        exact Option.some.inj ((List.getElem?_eq_getElem hil).symm.trans hr2)
      have hshort : line.length ≤ 800000 := Nat.le_trans (short _ (List.mem_of_getElem? hr2)) hz
      have I := I.ex (Evl.Ex.new (o := .tup [.int (1 + (i : Nat)), .ref T2]) ht)
      have hsT : SqT K (upd H2 t (.tup [.int (1 + (i : Nat)), .ref T2])) t [.int (1 + (i : Nat)), .ref T2] := SqT.of upd_same
      generalize upd H2 t (.tup [.int (1 + (i : Nat)), .ref T2]) = H3 at *
      have hT3 : H3 T2 = some (.tup [.str line, .bl ended]) := I.e1 _ _ (I.e0 _ _ hT2)
      walk_at "rd"
      refine ⟨_, hsT, rfl, _, _, rfl, _, _, rfl, _, rfl, _, SqT.of hT3, rfl, _, _, rfl, _, _, rfl, rfl, rfl, ?_⟩
      obtain ⟨Mid, hMid⟩ := opq2 fun (σ' : L2.St) (H' : Hp) => σ' = [some (.str z), some (.ref L), some (.ref O), some (.int (1 + (i : Nat))), some (.str line), some (.bl ended), some (.bl (inAll ops)), x7, x8] ∧ H' = H3
      refine ⟨Mid, ?_, fun σ' H' hm => ?_⟩
      · walk_at "rd"
        refine ⟨_, .inl (SqL.of I.hO), ite2 (fun h => ?_) (fun h => ?_)⟩
        · match ops, os, I.ops, I, hMid with
          | o :: ops', q :: os', ⟨ho, _⟩, I, hMid =>
            refine ⟨_, SqL.of I.hO, .ref q, ati_last (by simp), _, rfl, _, SqT.of (I.e1 _ _ ho), .str o.1, at0, rfl, (hMid _ _).mpr ⟨?_, rfl⟩⟩
            have e1 : decide (V.str o.1 = V.str (Str.ofString "all")) = inAll (o :: ops') := by simp [inAll]
            rw [e1]
          | [], [], _, _, _ => exact absurd h (by simp)
        · have e0 : ops = [] := by
            have h1 := I.ops.len
            rw [List.length_map, List.length_reverse] at h
            exact List.eq_nil_of_length_eq_zero (by omega)
          subst e0
          exact (hMid _ _).mpr ⟨rfl, rfl⟩
      · obtain ⟨rfl, rfl⟩ := (hMid _ _).mp hm
        clear hm hMid Mid
        have en : ((1 + i : Nat) : Int) = 1 + (i : Int) := by omega
        have sH' : Same H H' := e00.trans (I.e0.trans I.e1)
        have errK : ∀ H4, Same H' H4 → rRun 1 rows [[]] [] = .error (1 + (i : Int)) → ∀ d, H4 d = none → E (.ref T.C_BadLine) (some d) (upd H4 d (.xd [(Str.ofString "line", .int (1 + (i : Int)))])) :=
          fun H4 k e d hd => qE _ e _ d (sH'.trans (k.trans (Evl.Ex.new hd))) upd_same
        have hl := I.opn.len
        have ho := I.ops.len
        cases ended with
        | false =>
          walk_at "rd"
          exact errK _ (Same.refl _) (er.trans (by rw [rRun, en]))
        | true =>
        have err2 : rLine (1 + (i : Int)) line ls ops = none → rRun 1 rows [[]] [] = .error (1 + (i : Int)) := fun e => er.trans (by rw [rRun, en, e])
        have ok2 : ∀ ls' ops', rLine (1 + (i : Int)) line ls ops = some (ls', ops') → rRun 1 rows [[]] [] = rRun (1 + (i + 1)) (rows.drop (i + 1)) ls' ops' := fun ls' ops' e => er.trans (by rw [rRun, en, e]; congr 1)
        have leafK : ∀ H4, Same H' H4 → ¬ (line = "end" ∧ ops ≠ []) → (deedP line = true ∨ plainP line = true ∧ inAll ops = false) → ∃ x, SqL K H4 L x ∧ ∃ x_1, atI x (-1) = some x_1 ∧ tyV K "list" x_1 H4 ∧ ∃ l, x_1 = V.ref l ∧ ∃ x, H4 l = some (HO.lst x) ∧ x.length < sizeLine ∧
            Pv (i + 1) [some (V.str z), some (V.ref L), some (V.ref O), some (V.int (1 + (i : Int))), some (V.str line), some (V.bl true), some (V.bl (inAll ops)), x7, x8] (upd H4 l (HO.lst (x ++ [V.str line]))) := fun H4 k h1 h2 => by
          have I := I.ex k
          match ls, I, fit, ok2 with
          | p :: r, I, fit, ok2 =>
          obtain ⟨a, as', vs', rfl, h3, h4, h5, h6⟩ := I.last
          refine ⟨_, SqL.of I.hL, .ref a, ati_last h3, .inl ⟨rfl, _, SqL.of h4⟩, a, rfl, vs', h4, ?_, (hPv _ _ _).mpr ⟨_, _, G, a :: as', os, _, _, _, _, _, _, rfl, I.leaf h4 .s, fit.leaf, ok2 _ _ ?_⟩⟩
          · have := fit.1 p (by simp)
            rw [h5, sizeLine_eq]
            omega
          · unfold rLine
            rw [if_neg h1, if_pos h2]
        have pushK : ∀ H4, Same H' H4 → ¬ (line = "end" ∧ ops ≠ []) → ¬ (deedP line = true ∨ plainP line = true ∧ inAll ops = false) → line.length ≤ 1000000 ∧ ∀ (H'_2 : Hp), Same H4 H'_2 → if openP line = true then if inAll ops = false then ∃ x, (SqL K H'_2 O x ∨ SqT K H'_2 O x) ∧ if ((x.length : Nat) : Int) < 4 then
            tyV K "list" (V.ref O) H'_2 ∧ 2 ≤ sizeLine ∧ ∀ (p : Addr), H'_2 p = none → ∃ x, upd H'_2 p (HO.tup [V.str line, V.int (1 + (i : Int))]) O = some (HO.lst x) ∧ x.length < sizeLine ∧
              tyV K "list" (V.ref L) (upd (upd H'_2 p (HO.tup [V.str line, V.int (1 + (i : Int))])) O (HO.lst (x ++ [V.ref p]))) ∧ 0 ≤ sizeLine ∧
              ∀ (p_1 : Addr), upd (upd H'_2 p (HO.tup [V.str line, V.int (1 + (i : Int))])) O (HO.lst (x ++ [V.ref p])) p_1 = none → ∃ x_1,
                upd (upd (upd H'_2 p (HO.tup [V.str line, V.int (1 + (i : Int))])) O (HO.lst (x ++ [V.ref p]))) p_1 (HO.lst []) L = some (HO.lst x_1) ∧ x_1.length < sizeLine ∧
                Pv (i + 1) [some (V.str z), some (V.ref L), some (V.ref O), some (V.int (1 + (i : Int))), some (V.str line), some (V.bl true), some (V.bl (inAll ops)), x7, x8]
                  (upd (upd (upd (upd H'_2 p (HO.tup [V.str line, V.int (1 + (i : Int))])) O (HO.lst (x ++ [V.ref p]))) p_1 (HO.lst [])) L (HO.lst (x_1 ++ [V.ref p_1])))
            else ∀ (d : Addr), H'_2 d = none → E (Value.ref T.C_BadLine) (some d) (upd H'_2 d (HO.xd [(Str.ofString "line", V.int (1 + (i : Int)))]))
            else ∀ (d : Addr), H'_2 d = none → E (Value.ref T.C_BadLine) (some d) (upd H'_2 d (HO.xd [(Str.ofString "line", V.int (1 + (i : Int)))]))
            else ∀ (d : Addr), H'_2 d = none → E (Value.ref T.C_BadLine) (some d) (upd H'_2 d (HO.xd [(Str.ofString "line", V.int (1 + (i : Int)))])) := fun H4 k h1 h2 => by
          refine ⟨by omega, fun H5 k5 => ite2 (fun h3 => ite2 (fun h4 => ?_) (fun h4 => ?_)) (fun h3 => ?_)⟩
          · have I := I.ex (k.trans k5)
            refine ⟨_, .inl (SqL.of I.hO), ite2 (fun h5 => ?_) (fun h5 => ?_)⟩
            · rw [List.length_map, List.length_reverse] at h5
              refine ⟨.inl ⟨rfl, _, SqL.of I.hO⟩, by rw [sizeLine_eq]; decide, fun t ht => ?_⟩
              have nLO : L ≠ O := fun z => by
                have := I.nd
                simp [z] at this
              have e1 : upd H5 t (HO.tup [V.str line, V.int (1 + (i : Int))]) O = some (.lst (os.reverse.map V.ref)) := by
                rw [upd_ne (ne_of_none I.hO ht)]
                exact I.hO
              refine ⟨_, e1, by rw [List.length_map, List.length_reverse, sizeLine_eq]; omega, ?_⟩
              have e2 : upd (upd H5 t (HO.tup [V.str line, V.int (1 + (i : Int))])) O (HO.lst (os.reverse.map V.ref ++ [V.ref t])) L = some (.lst (as.reverse.map V.ref)) := by
                rw [upd_ne nLO, upd_ne (ne_of_none I.hL ht)]
                exact I.hL
              refine ⟨.inl ⟨rfl, _, SqL.of e2⟩, Nat.zero_le _, fun a ha => ⟨as.reverse.map V.ref, by rw [upd_ne (ne_of_none e2 ha)]; exact e2, ?_, (hPv _ _ _).mpr ⟨_, _, _, _, _, _, _, _, _, _, _, rfl, I.push ht ha, fit.push (by omega), ok2 _ _ ?_⟩⟩⟩
              · have := fit.2.1
                have := fit.2.2
                rw [List.length_map, List.length_reverse, sizeLine_eq]
                omega
              · unfold rLine
                rw [if_neg h1, if_neg h2, if_pos ⟨h3, h4, by omega⟩]
            · rw [List.length_map, List.length_reverse] at h5
              refine errK _ (k.trans k5) (err2 ?_)
              unfold rLine
              rw [if_neg h1, if_neg h2, if_neg (fun z => h5 (by have := z.2.2; omega))]
          · refine errK _ (k.trans k5) (err2 ?_)
            unfold rLine
            rw [if_neg h1, if_neg h2, if_neg (fun z => h4 z.2.1)]
          · refine errK _ (k.trans k5) (err2 ?_)
            unfold rLine
            rw [if_neg h1, if_neg h2, if_neg (fun z => h3 z.1)]
        have restK := fun (h1 : ¬ (line = "end" ∧ ops ≠ [])) => (⟨by omega, fun H4 k4 => ite2 (fun h2 => leafK H4 k4 h1 (.inl h2)) (fun h2 => ⟨by omega, fun H5 k5 => ite2 (fun h3 => ite2 (fun h4 => leafK H5 (k4.trans k5) h1 (.inr ⟨h3, h4⟩)) (fun h4 => pushK H5 (k4.trans k5) h1 (fun z => z.elim h2 (fun z => h4 z.2)))) (fun h3 => pushK H5 (k4.trans k5) h1 (fun z => z.elim h2 (fun z => h3 z.1)))⟩)⟩ : line.length ≤ 1000000 ∧ ∀ (H4 : Hp), Same H' H4 → if deedP line = true then _ else line.length ≤ 1000000 ∧ ∀ (H5 : Hp), Same H4 H5 → if plainP line = true then if inAll ops = false then _ else _ else _)
        walk_at "rd"
        refine ite2 (fun h1 => ⟨_, .inl (SqL.of I.hO), ite2 (fun h2 => ?_) (fun h2 => restK (fun z => ?_))⟩) (fun h1 => restK (fun z => h1 z.1))
        · rw [List.length_map, List.length_reverse] at h2
          match ls, ops, I, fit, ok2 with
          | [], _, I, fit, _ => exact absurd fit.2.1 (by simp)
          | _ :: _, [], I, fit, _ => exact absurd I.ops.len (by rw [List.length_nil]; omega)
          | [_], _ :: _, I, fit, _ => exact absurd fit.2.1 (by simp)
          | p :: q :: r, o :: ops', I, fit, ok2 =>
          obtain ⟨a, a2, as', t, ts, vs, vs2, rfl, rfl, ht, ha, ha2, h3, h4, n1, n2, n3, n4, n5, n6, n7, n8⟩ := I.two
          have eO := I.hO
          refine ⟨.inl ⟨rfl, _, SqL.of eO⟩, _, eO, .ref t, by simp, ?_⟩
          have e1 : (((t :: ts).reverse.map V.ref).dropLast) = ts.reverse.map V.ref := by simp
          rw [e1]
          have eL : upd H' O (.lst (ts.reverse.map V.ref)) L = some (.lst ((a :: a2 :: as').reverse.map V.ref)) := by
            rw [upd_ne n1]
            exact I.hL
          refine ⟨.inl ⟨rfl, _, SqL.of eL⟩, _, eL, .ref a, by simp, ?_⟩
          have e2 : (((a :: a2 :: as').reverse.map V.ref).dropLast) = (a2 :: as').reverse.map V.ref := by simp
          rw [e2]
          have ea2 : upd (upd H' O (.lst (ts.reverse.map V.ref))) L (.lst ((a2 :: as').reverse.map V.ref)) a2 = some (.lst vs2) := by
            rw [upd_ne n6, upd_ne n7]
            exact ha2
          have et : upd (upd H' O (.lst (ts.reverse.map V.ref))) L (.lst ((a2 :: as').reverse.map V.ref)) t = some (.tup [.str o.1, .int o.2]) := by
            rw [upd_ne n2, upd_ne n3]
            exact ht
          refine ⟨_, SqL.of upd_same, .ref a2, ati_last (by simp), .inl ⟨rfl, _, SqL.of ea2⟩, t, rfl, _, SqT.of et, .str o.1, at0, by rw [sizeLine_eq]; decide, fun T3 hT3 => ⟨a2, rfl, vs2, by rw [upd_ne (ne_of_none ea2 hT3)]; exact ea2, ?_, (hPv _ _ _).mpr ⟨_, _, _, _, _, _, _, _, _, _, _, rfl, I.close ha ha2 hT3, fit.close, ok2 _ _ ?_⟩⟩⟩
          · have := fit.1 q (by simp)
            rw [h4.len, sizeLine_eq]
            omega
          · unfold rLine
            rw [if_pos ⟨h1, by simp⟩]
        · rw [List.length_map, List.length_reverse] at h2
          exact z.2 (List.eq_nil_of_length_eq_zero (by omega))
    · obtain ⟨ls, ops, G, as, os, x3, x4, x5, x6, x7, x8, rfl, I, fit, er⟩ := (hPv _ _ _).mp p
      rw [hlen, List.drop_length] at er
      have sH2 : Same H H2 := e00.trans (I.e0.trans I.e1)
      walk_at "rd"
      refine ⟨_, .inl (SqL.of I.hO), ite2 (fun h => ?_) (fun h => ?_)⟩
      · match ops, os, I.ops, I, er with
        | o :: ops', q :: os', ⟨ho, _⟩, I, er =>
          exact ⟨_, SqL.of I.hO, .ref q, ati_last (by simp), _, rfl, _, SqT.of (I.e1 _ _ ho), .int o.2, at1, fun d hd => qE _ er _ d (sH2.trans (Evl.Ex.new hd)) upd_same⟩
        | [], [], _, _, _ => exact absurd h (by simp)
      · have e0 : ops = [] := by
          have h1 := I.ops.len
          rw [List.length_map, List.length_reverse] at h
          exact List.eq_nil_of_length_eq_zero (by omega)
        subst e0
        match ls, I, fit, er with
        | [], I, fit, _ => exact absurd fit.2.1 (by simp)
        | _ :: _ :: _, I, fit, _ => exact absurd fit.2.1 (by simp)
        | [p], I, fit, er =>
          obtain ⟨a, as', vs', rfl, h3, h4, h5, h6⟩ := I.last
          have e1 : as' = [] := List.eq_nil_of_length_eq_zero (Nat.succ.inj I.opn.len)
          subst e1
          exact ⟨_, SqL.of I.hL, .ref a, at0, qQ p er _ a sH2 (.l h4 (h6.ex I.e1))⟩
end
end K89

namespace K89
open PySem PySem.Spec PyProof.Rows L2 Lv
local macro_rules | `(tactic| walk_at "rd") => `(tactic| simp only [spB, r_seq, r_next, r_break, r_cont, r_asg, r_name, r_drop, r_ret, r_retN, r_if, r_var, r_c, r_op, r_un, r_test, r_B, r_and, r_or, r_not, r_andV, r_orV, r_notV, r_ifE, r_nil, r_cons, r_tup, r_lst, r_call, r_CB, r_BM, r_BM0, r_M1, r_M0, r_Sl, r_part, r_nopart, r_chain, r_I0, r_I, r_eq, r_ne, r_U, r_ixL, r_ixT, r_ixS, r_slL, r_slS, r_append, r_pop, r_sub, r_setL, r_cat, r_rep, r_in, r_strs, r_match, r_lc, r_for, r_iStr, r_iList, r_iTup, r_iRng1, r_iRng2, r_iEnumK, sign_inj, r_all, r_tStrs, r_gTup, r_gCons, r_gNil, wipe, cx_K, cx_N, cx_sc, r_stNil, st_start, List.set_cons_zero, List.set_cons_succ, List.getElem?_cons_zero, List.getElem?_cons_succ, Option.some.injEq, V.int.injEq, V.str.injEq, V.bl.injEq, V.ref.injEq, exists_eq_left', exists_eq_left, exists_eq', exists_and_left, true_and, and_true, exists_eq, exists_const, List.cons_append, List.nil_append, List.append_nil, List.cons.injEq, List.map_cons, List.map_nil, List.length_cons, List.length_nil, Nat.reduceAdd, Nat.reduceSub, List.replicate_succ, List.replicate_zero, Bool.not_eq_true', Bool.not_true, Bool.not_false, Bool.false_eq_true, if_true, if_false, ite_true, ite_false, decide_eq_true_eq, sc_ss, sc_ii, sc_bb, reduceCtorEq])
local macro_rules | `(tactic| walk_at "v") => `(tactic| refine ⟨_, rfl, ?_⟩)
local macro_rules | `(tactic| walk_at "sz") => `(tactic| first | exact Nat.le_trans (by assumption) (by decide) | exact Nat.zero_le _ | (rw [sizeLine_eq]; simp <;> omega) | omega)

/-! ### the law's first wrong line -/
def fRun : Nat → List Str → List (Str × Int) → Int
  | _, [], o :: _ => o.2
  | _, [], [] => 0
  | k, [x], ops => if x = Str.empty then fRun (k + 1) [] ops else ((k + 1 : Nat) : Int)
  | k, x :: y :: r, ops => if deedL x = true then fRun (k + 1) (y :: r) ops else if x = "end" ∧ ops ≠ [] then fRun (k + 1) (y :: r) ops.tail
    else if inAll ops = false ∧ ops.length < 4 ∧ openL x = true then fRun (k + 1) (y :: r) ((x, ((k + 1 : Nat) : Int)) :: ops) else if inAll ops = true ∨ plainL x = false then ((k + 1 : Nat) : Int) else fRun (k + 1) (y :: r) ops
def spWrong : Sp := fun vs H Q _ => ∃ z : Str, vs = [.str z] ∧ z.length ≤ 800000 ∧ ∀ H', Same H H' → Q (.int (fRun 0 (Txt.split z nl) [])) H'
/-- the openings, each a new list of a number and a line -/
def OpL (H : Hp) : List V → List (Str × Int) → Prop
  | [], [] => True
  | v :: os, q :: r => (∃ o, v = .ref o ∧ H o = some (.lst [.int q.2, .str q.1])) ∧ OpL H os r
  | _, _ => False
theorem OpL.mono {G G' : Hp} (e : Evl.Ex G G') : ∀ {os : List V} {ops : List (Str × Int)}, OpL G os ops → OpL G' os ops
  | [], [], _ => trivial
  | a :: as, p :: ls, ⟨⟨o, h0, h1⟩, r⟩ => ⟨⟨o, h0, e _ _ h1⟩, r.mono e⟩
  | [], _ :: _, h => h.elim
  | _ :: _, [], h => h.elim
theorem OpL.len {G : Hp} : ∀ {as : List V} {ls : List (Str × Int)}, OpL G as ls → as.length = ls.length
  | [], [], _ => rfl
  | a :: as, p :: ls, h => by rw [List.length_cons, List.length_cons, h.2.len]
  | [], _ :: _, h => h.elim
  | _ :: _, [], h => h.elim
section
variable {w : World} {K : PySem.W.Frag} {mg : Str → Option Value} {base : Heap}
theorem ok__law_first_wrong (T : Txt K mg) : FnOk Pg w K mg base CX0 3 T.a__law_first_wrong T.d__law_first_wrong ["text"] spWrong := by
  have G__law_is_deed := ok__law_is_deed (w := w) (base := base) T
  have G__law_is_plain := ok__law_is_plain (w := w) (base := base) T
  have G__law_is_opening := ok__law_is_opening (w := w) (base := base) T
  refine T.f__law_first_wrong.ok sc__law_first_wrong (fun vs H Q E h => ?_) (fun cdv A outer s H vs Q E hr h => ?_)
  · obtain ⟨z, rfl, _⟩ := h
    rfl
  · obtain ⟨z, rfl, hz, q⟩ := h
    refine ⟨_, (pss_cons (ps_set (i := 1) sc__law_first_wrong.nd rfl (Or.inl rfl) (pe_split (pv 0) pe_str))
  (pss_cons (ps_set (i := 2) sc__law_first_wrong.nd rfl (Or.inl rfl) (pe_lst pa_nil))
  (pss_cons (ps_for PassesOwn.never rfl (pi_range1 (by rfl) T.z_range (pa_cons (pe_callB call_len_seq (by rfl) T.z_len PySem.boot_len (pa_cons (pv 1) pa_nil)) pa_nil)) (pg_name (i := 3) sc__law_first_wrong.nd rfl (Or.inl rfl))
  (pss_cons (ps_set (i := 4) sc__law_first_wrong.nd rfl (Or.inl rfl) (pe_ix (r := rIxL K) ix_list (pv 1) (pv 3) (fun _ _ => rfl)))
  (pss_cons (ps_set (i := 5) sc__law_first_wrong.nd rfl (Or.inl rfl) (pe_cmpR op_eq (pv 3) (pe_op op_sub (pe_callB call_len_seq (by rfl) T.z_len PySem.boot_len (pa_cons (pv 1) pa_nil)) pe_int) (nomark _)))
  (pss_cons (ps_if (PW.pt (pw_and (pt_val (pv 5)) (pw_and1 (pt_cmpR op_ne (pv 4) pe_str (nomark _)))))
  (pss_one (ps_ret (pe_op op_add (pv 3) pe_int)))
  pss_nil)
  (pss_one (ps_if (PW.pt (pw_and (pt_not (pt_val (pv 5))) (pw_and1 (pt_not (pt_val (pe_call G__law_is_deed (hr.mono (by omega)) (by rfl) T.g__law_is_deed T.f__law_is_deed.kp T.b__law_is_deed .nil pass0 (pa_cons (pv 4) pa_nil)))))))
  (Evl.pss_cut (ps_set (i := 6) sc__law_first_wrong.nd rfl (Or.inl rfl) (pe_and (pe_cmpR op_gt (pe_callB call_len_seq (by rfl) T.z_len PySem.boot_len (pa_cons (pv 2) pa_nil)) pe_int (nomark _)) (pe_one (pe_cmpR op_eq (pe_ix (r := rIxL K) ix_list (pe_ix (r := rIxL K) ix_list (pv 2) (pe_un un_neg pe_int) (fun _ _ => rfl)) pe_int (fun _ _ => rfl)) pe_str (nomark _)))))
  (pss_one (ps_if (PW.pt (pw_and (pt_cmpR op_eq (pv 4) pe_str (nomark _)) (pw_and1 (pt_cmpR op_gt (pe_callB call_len_seq (by rfl) T.z_len PySem.boot_len (pa_cons (pv 2) pa_nil)) pe_int (nomark _)))))
  (pss_one (ps_set (i := 2) sc__law_first_wrong.nd rfl (Or.inl rfl) (pe_slice sl_list (pv 2) po_none (po_some (pe_un un_neg pe_int)))))
  (pss_one (ps_if (PW.pt (pw_and (pt_not (pt_val (pv 6))) (pw_and (pt_cmpR op_lt (pe_callB call_len_seq (by rfl) T.z_len PySem.boot_len (pa_cons (pv 2) pa_nil)) pe_int (nomark _)) (pw_and1 (pt_val (pe_call G__law_is_opening (hr.mono (by omega)) (by rfl) T.g__law_is_opening T.f__law_is_opening.kp T.b__law_is_opening .nil pass0 (pa_cons (pv 4) pa_nil)))))))
  (pss_one (ps_set (i := 2) sc__law_first_wrong.nd rfl (Or.inl rfl) (pe_op op_cat (pv 2) (pe_lst (pa_cons (pe_lst (pa_cons (pe_op op_add (pv 3) pe_int) (pa_cons (pv 4) pa_nil))) pa_nil)))))
  (pss_one (ps_if (PW.pt (pw_or (pt_val (pv 6)) (pw_or1 (pt_not (pt_val (pe_call G__law_is_plain (hr.mono (by omega)) (by rfl) T.g__law_is_plain T.f__law_is_plain.kp T.b__law_is_plain .nil pass0 (pa_cons (pv 4) pa_nil)))))))
  (pss_one (ps_ret (pe_op op_add (pv 3) pe_int)))
  pss_nil)))))))
  pss_nil))))))
  (pss_cons (ps_if (pt_cmpR op_gt (pe_callB call_len_seq (by rfl) T.z_len PySem.boot_len (pa_cons (pv 2) pa_nil)) pe_int (nomark _))
  (pss_one (ps_ret (pe_ix (r := rIxL K) ix_list (pe_ix (r := rIxL K) ix_list (pv 2) (pe_un un_neg pe_int) (fun _ _ => rfl)) pe_int (fun _ _ => rfl))))
  pss_nil)
  (pss_one (ps_ret pe_int)))))), ?_⟩
    walk_at "rd"
    refine ⟨rfl, sz2 (by omega), fun pp hp => ⟨Nat.zero_le _, fun O hO => ?_⟩⟩
    have eS : (upd H pp (.lst ((Txt.split z nl).map V.str))) pp = some (.lst ((Txt.split z nl).map V.str)) := upd_same
    have s1 : Same H (upd H pp (.lst ((Txt.split z nl).map V.str))) := Evl.Ex.new hp
    have short : ∀ x ∈ Txt.split z nl, x.length ≤ 1000000 := fun x hx => Nat.le_trans (part_short hx) (by omega)
    have pos := split_pos z nl
    have many := split_le z nl
    have ew : Txt.split z (Str.ofString "\n") = Txt.split z nl := rfl
    rw [ew] at hO ⊢
    generalize Txt.split z nl = ws at *
    generalize upd H pp (.lst (ws.map V.str)) = H1 at *
    have s2 : Same H1 (upd H1 O (.lst [])) := Evl.Ex.new hO
    have gO : upd H1 O (.lst []) O = some (.lst []) := upd_same
    generalize upd H1 O (.lst []) = H2 at *
    have hS : SqL K H2 pp (ws.map V.str) := SqL.of (s2 _ _ eS)
    refine ⟨_, .inl hS, ?_⟩
    have many' : ws.length ≤ 900000 := by omega
    clear many
    rw [List.length_map]
    have er0 : ((0 : Nat) : Int) = 0 := rfl
    refine ⟨by omega, by omega, ?_⟩
    obtain ⟨Pv, hPv⟩ := opq3 fun (i : Nat) (σ : L2.St) (H3 : Hp) => ∃ ops O os x3 x4 x5 x6, σ = [some (.str z), some (.ref pp), some (.ref O), x3, x4, x5, x6] ∧ Same H2 H3 ∧ H3 O = some (.lst os.reverse) ∧ OpL H3 os ops ∧ ops.length ≤ 4 ∧ fRun 0 ws [] = fRun i (ws.drop i) ops
    refine f_range Pv ((hPv _ _ _).mpr ⟨[], O, [], none, none, none, none, rfl, Same.refl _, gO, trivial, by decide, by simp⟩) (fun i σ H3 hi p => ?_) (fun σ H3 p => ?_)
    · obtain ⟨ops, O, os, x3, x4, x5, x6, rfl, s3, hO3, hops, hfit, er⟩ := (hPv _ _ _).mp p
      have hi : i < ws.length := by omega
      obtain ⟨line, hline⟩ : ∃ x, ws[i]? = some x := ⟨_, List.getElem?_eq_getElem hi⟩
      have hSl := s3.seq hS
      have hshort := short _ (List.mem_of_getElem? hline)
      have er : fRun 0 ws [] = fRun i (line :: ws.drop (i + 1)) ops := by
        rw [er, List.drop_eq_getElem_cons hi]
        congr
        exact Option.some.inj ((List.getElem?_eq_getElem hi).symm.trans hline)
      walk_at "rd"
      refine ⟨_, hSl, .str line, ati (j := i) (by omega) (by rw [List.getElem?_map, hline]; rfl), _, .inl hSl, ?_⟩
      rw [List.length_map]
      have en : ((i + 1 : Nat) : Int) = 0 + (i : Int) + 1 := by omega
      have nxt : ∀ H4 ops' O' os' x3 x4 x5 x6, Same H3 H4 → H4 O' = some (.lst os'.reverse) → OpL H4 os' ops' → ops'.length ≤ 4 → fRun 0 ws [] = fRun (i + 1) (ws.drop (i + 1)) ops' → Pv (i + 1) [some (V.str z), some (V.ref pp), some (V.ref O'), x3, x4, x5, x6] H4 :=
        fun H4 ops' O' os' x3 x4 x5 x6 k h1 h2 h3 h4 => (hPv _ _ _).mpr ⟨ops', O', os', x3, x4, x5, x6, rfl, s3.trans k, h1, h2, h3, h4⟩
      refine ite2 (fun hl => ⟨rfl, ite2 (fun h1 => ?_) (fun h1 => ite2 (fun h2 => absurd (decide_eq_true hl) (by rw [h2]; simp)) (fun _ => ?_))⟩) (fun hl => ite2 (fun h2 => ⟨line, rfl, hshort, fun H4 s4 => ite2 (fun h3 => ?_) (fun h3 => ?_)⟩) (fun h2 => absurd (decide_eq_false hl) h2))
      · have ed : ws.drop (i + 1) = [] := List.drop_eq_nil_of_le (by omega)
        rw [ed, fRun, if_neg (fun e => (of_decide_eq_false h1) (by rw [e]; rfl)), en] at er
        rw [← er]
        exact q _ (s1.trans (s2.trans s3))
      · have ed : ws.drop (i + 1) = [] := List.drop_eq_nil_of_le (by omega)
        refine nxt _ _ _ _ _ _ _ _ (Same.refl _) hO3 hops hfit ?_
        rw [ed, fRun] at er
        rw [ed]
        exact er.trans (if_pos (V.str.inj (of_decide_eq_true ((Bool.not_eq_false _).mp h1))))
      · obtain ⟨y, r, ed⟩ : ∃ y r, ws.drop (i + 1) = y :: r := ⟨_, _, List.drop_eq_getElem_cons (show i + 1 < ws.length by omega)⟩
        rw [ed, fRun, if_neg (by rw [h3]; decide), ← ed] at er
        have hops4 := hops.mono s4
        have hO4 := s4 _ _ hO3
        obtain ⟨Mid, hMid⟩ := opq2 fun (σ' : L2.St) (H' : Hp) => σ' = [some (.str z), some (.ref pp), some (.ref O), some (.int (0 + (i : Nat))), some (.str line), some (.bl (decide (0 + (i : Int) = (ws.length : Int) - 1))), some (.bl (inAll ops))] ∧ H' = H4
        refine ⟨Mid, ?_, fun σ' H' hm => ?_⟩
        · walk_at "rd"
          refine ⟨_, .inl (SqL.of hO4), ite2 (fun h => ?_) (fun h => ?_)⟩
          · match ops, os, hops4, hO4, hMid with
            | o :: ops', v :: os', ⟨⟨q, e, hq⟩, _⟩, hO4, hMid =>
              subst e
              refine ⟨_, SqL.of hO4, .ref q, ati_last (by simp), q, rfl, _, SqL.of hq, .str o.1, at1, rfl, (hMid _ _).mpr ⟨?_, rfl⟩⟩
              have e1 : decide (V.str o.1 = V.str (Str.ofString "all")) = inAll (o :: ops') := by simp [inAll]
              rw [e1]
            | [], [], _, _, _ => exact absurd h (by simp)
          · have e0 : ops = [] := by
              have h1 := hops.len
              rw [List.length_reverse] at h
              exact List.eq_nil_of_length_eq_zero (by omega)
            subst e0
            exact (hMid _ _).mpr ⟨rfl, rfl⟩
        · obtain ⟨rfl, rfl⟩ := (hMid _ _).mp hm
          clear hm hMid Mid
          have hl4 := hops.len
          have sH4 : Same H H' := s1.trans (s2.trans (s3.trans s4))
          have plainK : ∀ H5, Same H' H5 → ¬ (line = "end" ∧ ops ≠ []) → ¬ (inAll ops = false ∧ ops.length < 4 ∧ openL line = true) → if inAll ops = true then Q (V.int (0 + (i : Int) + 1)) H5 else line.length ≤ 1000000 ∧ ∀ (H6 : Hp), Same H5 H6 → if plainL line = false then Q (V.int (0 + (i : Int) + 1)) H6 else
              Pv (i + 1) [some (V.str z), some (V.ref pp), some (V.ref O), some (V.int (0 + (i : Int))), some (V.str line), some (V.bl (decide (0 + (i : Int) = (ws.length : Int) - 1))), some (V.bl (inAll ops))] H6 := fun H5 s5 c1 c2 => by
            rw [if_neg c1, if_neg c2] at er
            refine ite2 (fun h1 => ?_) (fun h1 => ⟨hshort, fun H6 s6 => ite2 (fun h2 => ?_) (fun h2 => ?_)⟩)
            · rw [if_pos (.inl h1), en] at er
              rw [← er]
              exact q _ (sH4.trans s5)
            · rw [if_pos (.inr h2), en] at er
              rw [← er]
              exact q _ (sH4.trans (s5.trans s6))
            · rw [if_neg (fun z => z.elim h1 h2)] at er
              exact nxt _ _ _ _ _ _ _ _ (s4.trans (s5.trans s6)) ((s5.trans s6) _ _ hO4) (hops4.mono (s5.trans s6)) hfit er
          have openK : ¬ (line = "end" ∧ ops ≠ []) → if inAll ops = false then ∃ x, (SqL K H' O x ∨ SqT K H' O x) ∧ if ((x.length : Nat) : Int) < 4 then line.length ≤ 1000000 ∧ ∀ (H'_1 : Hp), Same H' H'_1 → if openL line = true then
              2 ≤ sizeLine ∧ ∀ (p : Addr), H'_1 p = none → 1 ≤ sizeLine ∧ ∀ (p_1 : Addr), upd H'_1 p (HO.lst [V.int (0 + (i : Int) + 1), V.str line]) p_1 = none → ∃ x, upd (upd H'_1 p (HO.lst [V.int (0 + (i : Int) + 1), V.str line])) p_1 (HO.lst [V.ref p]) O = some (HO.lst x) ∧
                ∃ x_1, upd (upd H'_1 p (HO.lst [V.int (0 + (i : Int) + 1), V.str line])) p_1 (HO.lst [V.ref p]) p_1 = some (HO.lst x_1) ∧ x.length + x_1.length ≤ sizeLine ∧ ∀ (p_2 : Addr), upd (upd H'_1 p (HO.lst [V.int (0 + (i : Int) + 1), V.str line])) p_1 (HO.lst [V.ref p]) p_2 = none →
                  Pv (i + 1) [some (V.str z), some (V.ref pp), some (V.ref p_2), some (V.int (0 + (i : Int))), some (V.str line), some (V.bl (decide (0 + (i : Int) = (ws.length : Int) - 1))), some (V.bl (inAll ops))] (upd (upd (upd H'_1 p (HO.lst [V.int (0 + (i : Int) + 1), V.str line])) p_1 (HO.lst [V.ref p])) p_2 (HO.lst (x ++ x_1)))
              else if inAll ops = true then Q (V.int (0 + (i : Int) + 1)) H'_1 else line.length ≤ 1000000 ∧ ∀ (H6 : Hp), Same H'_1 H6 → if plainL line = false then Q (V.int (0 + (i : Int) + 1)) H6 else
                Pv (i + 1) [some (V.str z), some (V.ref pp), some (V.ref O), some (V.int (0 + (i : Int))), some (V.str line), some (V.bl (decide (0 + (i : Int) = (ws.length : Int) - 1))), some (V.bl (inAll ops))] H6
              else if inAll ops = true then Q (V.int (0 + (i : Int) + 1)) H' else line.length ≤ 1000000 ∧ ∀ (H6 : Hp), Same H' H6 → if plainL line = false then Q (V.int (0 + (i : Int) + 1)) H6 else
                Pv (i + 1) [some (V.str z), some (V.ref pp), some (V.ref O), some (V.int (0 + (i : Int))), some (V.str line), some (V.bl (decide (0 + (i : Int) = (ws.length : Int) - 1))), some (V.bl (inAll ops))] H6
              else if inAll ops = true then Q (V.int (0 + (i : Int) + 1)) H' else line.length ≤ 1000000 ∧ ∀ (H6 : Hp), Same H' H6 → if plainL line = false then Q (V.int (0 + (i : Int) + 1)) H6 else
                Pv (i + 1) [some (V.str z), some (V.ref pp), some (V.ref O), some (V.int (0 + (i : Int))), some (V.str line), some (V.bl (decide (0 + (i : Int) = (ws.length : Int) - 1))), some (V.bl (inAll ops))] H6 := fun c1 => by
            refine ite2 (fun h1 => ⟨_, .inl (SqL.of hO4), ite2 (fun h2 => ⟨hshort, fun H5 s5 => ite2 (fun h3 => ?_) (fun h3 => plainK H5 s5 c1 (fun z => h3 z.2.2))⟩) (fun h2 => plainK _ (Same.refl _) c1 (fun z => h2 (by have := z.2.1; rw [List.length_reverse]; omega)))⟩) (fun h1 => plainK _ (Same.refl _) c1 (fun z => h1 z.1))
            rw [List.length_reverse] at h2
            refine ⟨by rw [sizeLine_eq]; decide, fun a ha => ⟨by rw [sizeLine_eq]; decide, fun b hb => ⟨os.reverse, ?_, [.ref a], upd_same, ?_, fun c hc => ?_⟩⟩⟩
            · exact Evl.Ex.new hb _ _ (Evl.Ex.new ha _ _ (s5 _ _ hO4))
            · rw [List.length_reverse, sizeLine_eq, List.length_singleton]
              omega
            · rw [if_neg c1, if_pos ⟨h1, by omega, h3⟩] at er
              have k6 : Same H5 (upd (upd (upd H5 a (.lst [V.int (0 + (i : Int) + 1), V.str line])) b (.lst [.ref a])) c (.lst (os.reverse ++ [.ref a]))) := (Evl.Ex.new ha).trans ((Evl.Ex.new hb).trans (Evl.Ex.new hc))
              refine nxt _ ((line, ((i + 1 : Nat) : Int)) :: ops) c (.ref a :: os) _ _ _ _ (s4.trans (s5.trans k6)) (by rw [List.reverse_cons]; exact upd_same) ⟨⟨a, rfl, ?_⟩, hops4.mono (s5.trans k6)⟩ ?_ er
              · rw [en]
                exact Evl.Ex.new hc _ _ (Evl.Ex.new hb _ _ upd_same)
              · rw [List.length_cons]
                omega
          walk_at "rd"
          refine ite2 (fun h1 => ⟨_, .inl (SqL.of hO4), ite2 (fun h2 => ?_) (fun h2 => openK (fun z => ?_))⟩) (fun h1 => openK (fun z => h1 z.1))
          · rw [List.length_reverse] at h2
            match ops, os, hops4, hO4, er, nxt, hfit with
            | [], [], _, _, _, _, _ => exact absurd h2 (by simp)
            | o :: ops', v :: os', hops4, hO4, er, nxt, hfit =>
            rw [if_pos ⟨h1, by simp⟩] at er
            refine ⟨_, SqL.of hO4, fun a ha => nxt _ ops' a os' _ _ _ _ (s4.trans (Evl.Ex.new ha)) ?_ (hops4.2.mono (Evl.Ex.new ha)) (Nat.le_of_succ_le hfit) er⟩
            rw [cutV_init, List.reverse_cons, List.dropLast_concat]
            exact upd_same
          · rw [List.length_reverse] at h2
            exact z.2 (List.eq_nil_of_length_eq_zero (by omega))
      · obtain ⟨y, r, ed⟩ : ∃ y r, ws.drop (i + 1) = y :: r := ⟨_, _, List.drop_eq_getElem_cons (show i + 1 < ws.length by omega)⟩
        refine nxt _ _ _ _ _ _ _ _ s4 (s4 _ _ hO3) (hops.mono s4) hfit ?_
        rw [ed, fRun, if_pos (by simpa using h3), ← ed] at er
        exact er
    · obtain ⟨ops, O, os, x3, x4, x5, x6, rfl, s3, hO3, hops, hfit, er⟩ := (hPv _ _ _).mp p
      have et : ((ws.length : Nat) : Int).toNat = ws.length := rfl
      rw [et, List.drop_length] at er
      have sH : Same H H3 := s1.trans (s2.trans s3)
      walk_at "rd"
      refine ⟨_, .inl (SqL.of hO3), ite2 (fun h => ?_) (fun h => ?_)⟩
      · match ops, os, hops, hO3, er with
        | o :: ops', v :: os', ⟨⟨u, e, hq⟩, _⟩, hO3, er =>
          subst e
          refine ⟨_, SqL.of hO3, .ref u, ati_last (by simp), u, rfl, _, SqL.of hq, .int o.2, at0, ?_⟩
          rw [fRun] at er
          rw [← er]
          exact q _ sH
        | [], [], _, _, _ => exact absurd h (by simp)
      · have e0 : ops = [] := by
          have h1 := hops.len
          rw [List.length_reverse] at h
          exact List.eq_nil_of_length_eq_zero (by omega)
        subst e0
        rw [fRun] at er
        have := q _ sH
        rw [er] at this
        exact this
end
end K89

namespace K89
open PySem PySem.Spec PyProof.Rows L2 Lv
local macro_rules | `(tactic| walk_at "rd") => `(tactic| simp only [spB, r_seq, r_next, r_break, r_cont, r_asg, r_name, r_drop, r_ret, r_retN, r_if, r_var, r_c, r_op, r_un, r_test, r_B, r_and, r_or, r_not, r_andV, r_orV, r_notV, r_ifE, r_nil, r_cons, r_tup, r_lst, r_call, r_CB, r_BM, r_BM0, r_M1, r_M0, r_Sl, r_part, r_nopart, r_chain, r_I0, r_I, r_eq, r_ne, r_U, r_ixL, r_ixT, r_ixS, r_slL, r_slS, r_append, r_pop, r_sub, r_setL, r_cat, r_rep, r_in, r_strs, r_match, r_lc, r_for, r_iStr, r_iList, r_iTup, r_iRng1, r_iRng2, r_iEnumK, sign_inj, r_all, r_tStrs, r_gTup, r_gCons, r_gNil, wipe, cx_K, cx_N, cx_sc, r_stNil, st_start, List.set_cons_zero, List.set_cons_succ, List.getElem?_cons_zero, List.getElem?_cons_succ, Option.some.injEq, V.int.injEq, V.str.injEq, V.bl.injEq, V.ref.injEq, exists_eq_left', exists_eq_left, exists_eq', exists_and_left, true_and, and_true, exists_eq, exists_const, List.cons_append, List.nil_append, List.append_nil, List.cons.injEq, List.map_cons, List.map_nil, List.length_cons, List.length_nil, Nat.reduceAdd, Nat.reduceSub, List.replicate_succ, List.replicate_zero, Bool.not_eq_true', Bool.not_true, Bool.not_false, Bool.false_eq_true, if_true, if_false, ite_true, ite_false, decide_eq_true_eq, sc_ss, sc_ii, sc_bb, reduceCtorEq])
local macro_rules | `(tactic| walk_at "v") => `(tactic| refine ⟨_, rfl, ?_⟩)
local macro_rules | `(tactic| walk_at "sz") => `(tactic| first | exact Nat.le_trans (by assumption) (by decide) | exact Nat.zero_le _ | (rw [sizeLine_eq]; simp <;> omega) | omega)

/-! ### the law's reading from the back -/
def bStep (x : Str) (ls : List (List Dt)) : Option (List (List Dt)) :=
  if x = "end" then some ([] :: ls) else if openL x = true then (match ls with | a :: b :: r => some ((.t [.s x, .l a] :: b) :: r) | _ => none) else (match ls with | a :: r => some ((.s x :: a) :: r) | [] => none)
def bRun : List Str → Option (List (List Dt))
  | [] => some [[]]
  | x :: r => (bRun r).bind (bStep x)
def spBack : Sp := fun vs H Q _ => ∃ z ts, vs = [.str z] ∧ z.length ≤ 800000 ∧ bRun (Txt.split z nl).dropLast = some [ts] ∧ ∀ H' a, Same H H' → Is H' (.ref a) (.l ts) → Q (.ref a) H'
theorem bRun_some : ∀ {l : List Str} {ls : List (List Dt)}, bRun l = some ls → ∀ k, ∃ ls', bRun (l.drop k) = some ls'
  | [], ls, h, k => ⟨ls, by rw [List.drop_nil]; exact h⟩
  | x :: r, ls, h, 0 => ⟨ls, h⟩
  | x :: r, ls, h, k + 1 => by
    rw [bRun] at h
    cases e : bRun r with
    | none => rw [e] at h; cases h
    | some l => exact bRun_some e k
section
variable {w : World} {K : PySem.W.Frag} {mg : Str → Option Value} {base : Heap}
theorem ok__law_from_the_back (T : Txt K mg) : FnOk Pg w K mg base CX0 2 T.a__law_from_the_back T.d__law_from_the_back ["text"] spBack := by
  have G__law_is_opening := ok__law_is_opening (w := w) (base := base) T
  refine T.f__law_from_the_back.ok sc__law_from_the_back (fun vs H Q E h => ?_) (fun cdv A outer s H vs Q E hr h => ?_)
  · obtain ⟨z, _, rfl, _⟩ := h
    rfl
  · obtain ⟨z, ts, rfl, hz, hts, q⟩ := h
    refine ⟨_, (pss_cons (ps_set (i := 1) sc__law_from_the_back.nd rfl (Or.inl rfl) (pe_lst (pa_cons (pe_lst pa_nil) pa_nil)))
  (pss_cons (ps_set (i := 2) sc__law_from_the_back.nd rfl (Or.inl rfl) (pe_slice sl_list (pe_split (pv 0) pe_str) po_none (po_some (pe_un un_neg pe_int))))
  (pss_cons (ps_for PassesOwn.never rfl (pi_range1 (by rfl) T.z_range (pa_cons (pe_callB call_len_seq (by rfl) T.z_len PySem.boot_len (pa_cons (pv 2) pa_nil)) pa_nil)) (pg_name (i := 3) sc__law_from_the_back.nd rfl (Or.inl rfl))
  (pss_cons (ps_set (i := 4) sc__law_from_the_back.nd rfl (Or.inl rfl) (pe_ix (r := rIxL K) ix_list (pv 2) (pe_op op_sub (pe_op op_sub (pe_callB call_len_seq (by rfl) T.z_len PySem.boot_len (pa_cons (pv 2) pa_nil)) pe_int) (pv 3)) (fun _ _ => rfl)))
  (pss_one (ps_if (pt_cmpR op_eq (pv 4) pe_str (nomark _))
  (pss_one (ps_set (i := 1) sc__law_from_the_back.nd rfl (Or.inl rfl) (pe_op op_cat (pe_lst (pa_cons (pe_lst pa_nil) pa_nil)) (pv 1))))
  (pss_one (ps_if (pt_val (pe_call G__law_is_opening (hr.mono (by omega)) (by rfl) T.g__law_is_opening T.f__law_is_opening.kp T.b__law_is_opening .nil pass0 (pa_cons (pv 4) pa_nil)))
  (pss_one (ps_set (i := 1) sc__law_from_the_back.nd rfl (Or.inl rfl) (pe_op op_cat (pe_lst (pa_cons (pe_op op_cat (pe_lst (pa_cons (pe_tup (pa_cons (pv 4) (pa_cons (pe_ix (r := rIxL K) ix_list (pv 1) pe_int (fun _ _ => rfl)) pa_nil))) pa_nil)) (pe_ix (r := rIxL K) ix_list (pv 1) pe_int (fun _ _ => rfl))) pa_nil)) (pe_slice sl_list (pv 1) (po_some pe_int) po_none))))
  (pss_one (ps_set (i := 1) sc__law_from_the_back.nd rfl (Or.inl rfl) (pe_op op_cat (pe_lst (pa_cons (pe_op op_cat (pe_lst (pa_cons (pv 4) pa_nil)) (pe_ix (r := rIxL K) ix_list (pv 1) pe_int (fun _ _ => rfl))) pa_nil)) (pe_slice sl_list (pv 1) (po_some pe_int) po_none))))))))))
  (pss_one (ps_ret (pe_ix (r := rIxL K) ix_list (pv 1) pe_int (fun _ _ => rfl))))))), ?_⟩
    walk_at "rd"
    refine ⟨Nat.zero_le _, fun a ha => ⟨by rw [sizeLine_eq]; decide, fun L hL => ⟨rfl, sz2 (by omega), fun p hp => ?_⟩⟩⟩
    have ew : Txt.split z (Str.ofString "\n") = Txt.split z nl := rfl
    rw [ew]
    have many := split_le z nl
    have pos := split_pos z nl
    have short : ∀ x ∈ Txt.split z nl, x.length ≤ 1000000 := fun x hx => Nat.le_trans (part_short hx) (by omega)
    generalize Txt.split z nl = ws at *
    have e1 : Evl.Ex H (upd (upd (upd H a (.lst [])) L (.lst [.ref a])) p (.lst (ws.map V.str))) := (Evl.Ex.new ha).trans ((Evl.Ex.new hL).trans (Evl.Ex.new hp))
    have gL : (upd (upd (upd H a (.lst [])) L (.lst [.ref a])) p (.lst (ws.map V.str))) L = some (.lst [.ref a]) := Evl.Ex.new hp _ _ upd_same
    have ga : (upd (upd (upd H a (.lst [])) L (.lst [.ref a])) p (.lst (ws.map V.str))) a = some (.lst []) := Evl.Ex.new hp _ _ (Evl.Ex.new hL _ _ upd_same)
    have eS : (upd (upd (upd H a (.lst [])) L (.lst [.ref a])) p (.lst (ws.map V.str))) p = some (.lst (ws.map V.str)) := upd_same
    generalize upd (upd (upd H a (.lst [])) L (.lst [.ref a])) p (.lst (ws.map V.str)) = H1 at *
    refine ⟨_, SqL.of eS, fun p2 hp2 => ?_⟩
    rw [cutV_init, ← List.map_dropLast]
    have e2 : Evl.Ex H1 (upd H1 p2 (.lst (ws.dropLast.map V.str))) := Evl.Ex.new hp2
    have hS2 : SqL K (upd H1 p2 (.lst (ws.dropLast.map V.str))) p2 (ws.dropLast.map V.str) := SqL.of upd_same
    generalize upd H1 p2 (.lst (ws.dropLast.map V.str)) = H2 at *
    have short2 : ∀ x ∈ ws.dropLast, x.length ≤ 1000000 := fun x hx => short x (List.dropLast_subset _ hx)
    have hlen : ws.dropLast.length = ws.length - 1 := List.length_dropLast
    generalize ws.dropLast = ls at *
    have many2 : ls.length ≤ 900000 := by omega
    have hL2 := e2 _ _ gL
    have ha2 := e2 _ _ ga
    have eH := e1.trans e2
    clear eS gL ga e1 hp hL ha hp2 e2 hlen many pos short
    refine ⟨_, .inl hS2, ?_⟩
    rw [List.length_map]
    refine ⟨by omega, by omega, ?_⟩
    obtain ⟨Pv, hPv⟩ := opq3 fun (i : Nat) (σ : L2.St) (H3 : Hp) => ∃ L vs D x3 x4, σ = [some (.str z), some (.ref L), some (.ref p2), x3, x4] ∧ Same H2 H3 ∧ H3 L = some (.lst vs) ∧ IsL H3 vs (D.map .l) ∧ D.length ≤ i + 1 ∧ (∀ p ∈ D, p.length ≤ i) ∧ bRun (ls.drop (ls.length - i)) = some D
    refine f_range Pv ((hPv _ _ _).mpr ⟨L, [.ref a], [[]], none, none, rfl, Same.refl _, hL2, .cons (.l ha2 .nil) .nil, by decide, fun p hp => by simp at hp; subst hp; exact Nat.le_refl _, by rw [Nat.sub_zero, List.drop_length, bRun]⟩) (fun i σ H3 hi p => ?_) (fun σ H3 p => ?_)
    · obtain ⟨L, vs, D, x3, x4, rfl, s3, hL3, hD, f1, f2, er⟩ := (hPv _ _ _).mp p
      have hi : i < ls.length := by omega
      obtain ⟨x, hx⟩ : ∃ x, ls[ls.length - 1 - i]? = some x := ⟨_, List.getElem?_eq_getElem (by omega)⟩
      have ed : ls.drop (ls.length - (i + 1)) = x :: ls.drop (ls.length - i) := by
        have h1 : ls.length - (i + 1) < ls.length := by omega
        rw [List.drop_eq_getElem_cons h1, show ls.length - (i + 1) + 1 = ls.length - i by omega]
        have hx' : ls[ls.length - (i + 1)]? = some x := by
          rw [show ls.length - (i + 1) = ls.length - 1 - i by omega]
          exact hx
        rw [(List.getElem?_eq_some_iff.mp hx').2]
      obtain ⟨D', er'⟩ := bRun_some hts (ls.length - (i + 1))
      have er2 : bStep x D = some D' := by
        rw [ed, bRun, er] at er'
        exact er'
      have hS3 := s3.seq hS2
      have hshort := short2 x (List.mem_of_getElem? hx)
      have nxt : ∀ H4 L' vs' x3 x4, Same H3 H4 → H4 L' = some (.lst vs') → IsL H4 vs' (D'.map .l) → D'.length ≤ i + 1 + 1 → (∀ p ∈ D', p.length ≤ i + 1) → Pv (i + 1) [some (.str z), some (.ref L'), some (.ref p2), x3, x4] H4 :=
        fun H4 L' vs' x3 x4 k h1 h2 h3 h4 => (hPv _ _ _).mpr ⟨L', vs', D', x3, x4, rfl, s3.trans k, h1, h2, h3, h4, er'⟩
      walk_at "rd"
      refine ⟨_, .inl hS3, _, hS3, .str x, ?_, rfl, ite2 (fun h1 => ?_) (fun h1 => ⟨x, rfl, hshort, fun H4 s4 => ite2 (fun h2 => ?_) (fun h2 => ?_)⟩)⟩
      · refine ati (j := ls.length - 1 - i) ?_ ?_
        · rw [List.length_map]
          omega
        · rw [List.getElem?_map, hx]
          rfl
      · have h1 : x = "end" := V.str.inj h1
        unfold bStep at er2
        rw [if_pos h1] at er2
        cases er2
        refine ⟨Nat.zero_le _, fun p hp => ⟨by rw [sizeLine_eq]; decide, fun q hq => ?_⟩⟩
        have e4 : Evl.Ex H3 (upd H3 p (.lst [])) := Evl.Ex.new hp
        have g4 : (upd H3 p (.lst [])) p = some (.lst []) := upd_same
        generalize upd H3 p (.lst []) = H4 at *
        have e5 : Evl.Ex H4 (upd H4 q (.lst [.ref p])) := Evl.Ex.new hq
        have g5 : (upd H4 q (.lst [.ref p])) q = some (.lst [.ref p]) := upd_same
        generalize upd H4 q (.lst [.ref p]) = H5 at *
        refine ⟨_, g5, vs, e5 _ _ (e4 _ _ hL3), ?_, fun r hr => nxt _ r _ _ _ (e4.trans (e5.trans (Evl.Ex.new hr))) upd_same (.cons (.l (Evl.Ex.new hr _ _ (e5 _ _ g4)) .nil) (hD.ex (e4.trans (e5.trans (Evl.Ex.new hr))))) (Nat.succ_le_succ f1) (fun p hp => ?_)⟩
        · have := hD.len
          rw [List.length_map] at this
          rw [List.length_singleton, this, sizeLine_eq]
          omega
        · rcases List.mem_cons.mp hp with e | e
          · subst e
            exact Nat.zero_le _
          · exact Nat.le_succ_of_le (f2 p e)
      · have h1 : ¬ x = "end" := fun e => h1 (congrArg V.str e)
        unfold bStep at er2
        rw [if_neg h1, if_pos h2] at er2
        match D, er2, hD, f1, f2 with
        | [], er2, _, _, _ => cases er2
        | [_], er2, _, _, _ => cases er2
        | d1 :: d2 :: D, er2, hD, f1, f2 =>
        cases er2
        obtain ⟨v1, us1, rfl, hv1, hus1⟩ := hD.uncons
        obtain ⟨v2, us, rfl, hv2, hus⟩ := hus1.uncons
        have hL4 := s4 _ _ hL3
        refine ⟨_, SqL.of hL4, v1, at0, by rw [sizeLine_eq]; decide, fun p hp => ⟨by rw [sizeLine_eq]; decide, fun q hq => ?_⟩⟩
        have e5 : Evl.Ex H4 (upd H4 p (.tup [.str x, v1])) := Evl.Ex.new hp
        have g5 : (upd H4 p (.tup [.str x, v1])) p = some (.tup [.str x, v1]) := upd_same
        generalize upd H4 p (.tup [.str x, v1]) = H5 at *
        have e6 : Evl.Ex H5 (upd H5 q (.lst [.ref p])) := Evl.Ex.new hq
        have g6 : (upd H5 q (.lst [.ref p])) q = some (.lst [.ref p]) := upd_same
        generalize upd H5 q (.lst [.ref p]) = H6 at *
        obtain ⟨b2, xs2, rfl, hb2, hxs2⟩ := (hv2.ex s4).un_l
        refine ⟨_, SqL.of ((e5.trans e6) _ _ hL4), _, at1, b2, rfl, _, g6, xs2, (e5.trans e6) _ _ hb2, ?_, fun r hr => ⟨by rw [sizeLine_eq]; decide, fun u hu => ?_⟩⟩
        · have := f2 d2 (by simp)
          rw [hxs2.len, sizeLine_eq, List.length_singleton]
          omega
        have e7 : Evl.Ex H6 (upd H6 r (.lst ([.ref p] ++ xs2))) := Evl.Ex.new hr
        have g7 : (upd H6 r (.lst ([.ref p] ++ xs2))) r = some (.lst ([.ref p] ++ xs2)) := upd_same
        generalize upd H6 r (.lst ([.ref p] ++ xs2)) = H7 at *
        have e8 : Evl.Ex H7 (upd H7 u (.lst [.ref r])) := Evl.Ex.new hu
        have g8 : (upd H7 u (.lst [.ref r])) u = some (.lst [.ref r]) := upd_same
        generalize upd H7 u (.lst [.ref r]) = H8 at *
        have k8 := (e5.trans e6).trans (e7.trans e8)
        refine ⟨_, SqL.of (k8 _ _ hL4), fun y hy => ?_⟩
        have ec : cutV (v1 :: .ref b2 :: us) (some 2) none = us := cutV_drop (k := 2)
        rw [ec]
        have e9 : Evl.Ex H8 (upd H8 y (.lst us)) := Evl.Ex.new hy
        have g9 : (upd H8 y (.lst us)) y = some (.lst us) := upd_same
        generalize upd H8 y (.lst us) = H9 at *
        refine ⟨_, e9 _ _ g8, us, g9, ?_, fun c hc => nxt _ c _ _ _ (s4.trans (k8.trans (e9.trans (Evl.Ex.new hc)))) upd_same ?_ ?_ (fun p hp => ?_)⟩
        · have := hus.len
          rw [List.length_map] at this
          rw [List.length_cons, List.length_cons] at f1
          rw [List.length_singleton, this, sizeLine_eq]
          omega
        · have k7 := e7.trans (e8.trans (e9.trans (Evl.Ex.new (o := .lst ([.ref r] ++ us)) hc)))
          have k5 := e6.trans k7
          refine .cons (.l (Evl.Ex.new hc _ _ (e9 _ _ (e8 _ _ g7))) (.cons (.t (k5 _ _ g5) (.cons .s (.cons (hv1.ex (s4.trans (e5.trans k5))) .nil))) (hxs2.ex (e5.trans k5)))) (hus.ex (s4.trans (e5.trans k5)))
        · rw [List.length_cons, List.length_cons] at f1
          rw [List.length_cons]
          omega
        · rcases List.mem_cons.mp hp with e | e
          · subst e
            exact Nat.succ_le_succ (f2 d2 (by simp))
          · exact Nat.le_succ_of_le (f2 p (by simp [e]))
      · have h1 : ¬ x = "end" := fun e => h1 (congrArg V.str e)
        unfold bStep at er2
        rw [if_neg h1, if_neg h2] at er2
        match D, er2, hD, f1, f2 with
        | [], er2, _, _, _ => cases er2
        | d1 :: D, er2, hD, f1, f2 =>
        cases er2
        obtain ⟨v1, us, rfl, hv1, hus⟩ := hD.uncons
        obtain ⟨b1, xs1, rfl, hb1, hxs1⟩ := (hv1.ex s4).un_l
        have hL4 := s4 _ _ hL3
        refine ⟨by rw [sizeLine_eq]; decide, fun p hp => ?_⟩
        have e5 : Evl.Ex H4 (upd H4 p (.lst [.str x])) := Evl.Ex.new hp
        have g5 : (upd H4 p (.lst [.str x])) p = some (.lst [.str x]) := upd_same
        generalize upd H4 p (.lst [.str x]) = H5 at *
        refine ⟨_, SqL.of (e5 _ _ hL4), _, at0, b1, rfl, _, g5, xs1, e5 _ _ hb1, ?_, fun r hr => ⟨by rw [sizeLine_eq]; decide, fun u hu => ?_⟩⟩
        · have := f2 d1 (by simp)
          rw [hxs1.len, sizeLine_eq, List.length_singleton]
          omega
        have e7 : Evl.Ex H5 (upd H5 r (.lst ([.str x] ++ xs1))) := Evl.Ex.new hr
        have g7 : (upd H5 r (.lst ([.str x] ++ xs1))) r = some (.lst ([.str x] ++ xs1)) := upd_same
        generalize upd H5 r (.lst ([.str x] ++ xs1)) = H7 at *
        have e8 : Evl.Ex H7 (upd H7 u (.lst [.ref r])) := Evl.Ex.new hu
        have g8 : (upd H7 u (.lst [.ref r])) u = some (.lst [.ref r]) := upd_same
        generalize upd H7 u (.lst [.ref r]) = H8 at *
        have k8 := e5.trans (e7.trans e8)
        refine ⟨_, SqL.of (k8 _ _ hL4), fun y hy => ?_⟩
        have ec : cutV (.ref b1 :: us) (some 1) none = us := cutV_drop (k := 1)
        rw [ec]
        have e9 : Evl.Ex H8 (upd H8 y (.lst us)) := Evl.Ex.new hy
        have g9 : (upd H8 y (.lst us)) y = some (.lst us) := upd_same
        generalize upd H8 y (.lst us) = H9 at *
        refine ⟨_, e9 _ _ g8, us, g9, ?_, fun c hc => nxt _ c _ _ _ (s4.trans (k8.trans (e9.trans (Evl.Ex.new hc)))) upd_same ?_ ?_ (fun p hp => ?_)⟩
        · have := hus.len
          rw [List.length_map] at this
          rw [List.length_cons] at f1
          rw [List.length_singleton, this, sizeLine_eq]
          omega
        · have k7 := e7.trans (e8.trans (e9.trans (Evl.Ex.new (o := .lst ([.ref r] ++ us)) hc)))
          refine .cons (.l (Evl.Ex.new hc _ _ (e9 _ _ (e8 _ _ g7))) (.cons .s (hxs1.ex (e5.trans k7)))) (hus.ex (s4.trans (e5.trans k7)))
        · rw [List.length_cons] at f1 ⊢
          omega
        · rcases List.mem_cons.mp hp with e | e
          · subst e
            exact Nat.succ_le_succ (f2 d1 (by simp))
          · exact Nat.le_succ_of_le (f2 p (by simp [e]))
    · obtain ⟨L, vs, D, x3, x4, rfl, s3, hL3, hD, f1, f2, er⟩ := (hPv _ _ _).mp p
      have et : ((ls.length : Nat) : Int).toNat = ls.length := rfl
      rw [et, Nat.sub_self, List.drop_zero, hts] at er
      cases er
      obtain ⟨v, us, rfl, hv, hu⟩ := hD.uncons
      obtain ⟨b, xs, rfl, hb, hxs⟩ := hv.un_l
      walk_at "rd"
      exact ⟨_, SqL.of hL3, .ref b, at0, q _ _ (eH.trans s3) (.l hb hxs)⟩
end
end K89

namespace K89
open PySem PySem.Spec PyProof.Rows L2 Lv
local macro_rules | `(tactic| walk_at "rd") => `(tactic| simp only [r_seq, r_next, r_break, r_cont, r_asg, r_name, r_drop, r_ret, r_retN, r_if, r_var, r_c, r_op, r_un, r_test, r_B, r_and, r_or, r_not, r_andV, r_orV, r_notV, r_ifE, r_nil, r_cons, r_tup, r_lst, r_call, r_CB, r_BM, r_BM0, r_M1, r_M0, r_Sl, r_part, r_nopart, r_chain, r_I0, r_I, r_eq, r_ne, r_U, r_ixL, r_ixT, r_ixS, r_slL, r_slS, r_append, r_pop, r_sub, r_setL, r_cat, r_rep, r_in, r_strs, r_match, r_lc, r_for, r_iStr, r_iList, r_iTup, r_iRng1, r_iRng2, r_iEnumK, sign_inj, r_all, r_tStrs, r_gTup, r_gCons, r_gNil, wipe, cx_K, cx_N, cx_sc, r_stNil, st_start, List.set_cons_zero, List.set_cons_succ, List.getElem?_cons_zero, List.getElem?_cons_succ, Option.some.injEq, V.int.injEq, V.str.injEq, V.bl.injEq, V.ref.injEq, exists_eq_left', exists_eq_left, exists_eq', exists_and_left, true_and, and_true, exists_eq, exists_const, List.cons_append, List.nil_append, List.append_nil, List.cons.injEq, List.map_cons, List.map_nil, List.length_cons, List.length_nil, Nat.reduceAdd, Nat.reduceSub, List.replicate_succ, List.replicate_zero, Bool.not_eq_true', Bool.not_true, Bool.not_false, Bool.false_eq_true, if_true, if_false, ite_true, ite_false, decide_eq_true_eq, sc_ss, sc_ii, sc_bb, reduceCtorEq])
local macro_rules | `(tactic| walk_at "v") => `(tactic| refine ⟨_, rfl, ?_⟩)
local macro_rules | `(tactic| walk_at "sz") => `(tactic| first | exact Nat.le_trans (by assumption) (by decide) | exact Nat.zero_le _ | (rw [sizeLine_eq]; simp <;> omega) | omega)

/-! ### the law's draws -/
def spCell0 (K : PySem.W.Frag) : Sp := fun vs H Q _ => ∃ (a : Addr) (ns : List Int) (k : Nat), vs = [.ref a, .int k] ∧ SqL K H a (ns.map V.int) ∧ ns.length ≤ 63 ∧ ∀ c : Int, Q (.int c) H
def spPool : Sp := fun vs H Q _ => ∃ c : Int, vs = [.int c] ∧ ∀ p a b d, H p = none → Q (.ref p) (upd H p (.lst [.int a, .int b, .int d]))
def spTake : Sp := fun vs H Q _ => ∃ (p : Addr) (n : Nat), vs = [.ref p, .int n] ∧ PoolAt H p ∧ 1 ≤ n ∧ n ≤ 10000000 ∧ ∀ (r : Nat) H', r < n → Kp H H' → Q (.int r) H'
section
variable {w : World} {K : PySem.W.Frag} {mg : Str → Option Value} {base : Heap}
theorem ok__law_cell (T : Txt K mg) : FnOk Pg w K mg base CX0 1 T.a__law_cell T.d__law_cell ["script", "k"] (spCell0 K) := by
  refine T.f__law_cell.ok sc__law_cell (fun vs H Q E h => ?_) (fun cdv A outer s H vs Q E hr h => ?_)
  · obtain ⟨a, ns, k, rfl, _⟩ := h
    rfl
  · obtain ⟨a, ns, k, rfl, hS, hn, q⟩ := h
    refine ⟨_, (pss_cons (ps_if (pt_cmpR op_lt (pv 1) (pe_callB call_len_seq (by rfl) T.z_len PySem.boot_len (pa_cons (pv 0) pa_nil)) (nomark _))
  (pss_one (ps_ret (pe_ix (r := rIxL K) ix_list (pv 0) (pv 1) (fun _ _ => rfl))))
  pss_nil)
  (pss_one (ps_ret pe_int))), ?_⟩
    walk_at "rd"
    refine ⟨_, .inl hS, ite2 (fun h => ?_) (fun h => q 0)⟩
    rw [List.length_map] at h
    have hk : k < ns.length := by omega
    exact ⟨_, hS, .int ns[k], ati (j := k) rfl (by rw [List.getElem?_map, List.getElem?_eq_getElem hk]; rfl), q _⟩
theorem ok__law_pool (T : Txt K mg) : FnOk Pg w K mg base CX0 1 T.a__law_pool T.d__law_pool ["cell"] spPool := by
  refine T.f__law_pool.ok sc__law_pool (fun vs H Q E h => ?_) (fun cdv A outer s H vs Q E hr h => ?_)
  · obtain ⟨c, rfl, _⟩ := h
    rfl
  · obtain ⟨c, rfl, q⟩ := h
    refine ⟨_, (pss_cons (ps_set (i := 1) sc__law_pool.nd rfl (Or.inl rfl) (pe_callB call_abs (by rfl) T.z_abs (by decide +kernel) (pa_cons (pe_callTy call_int1 (by rfl) T.z_int (by decide +kernel) (pa_cons (pv 0) pa_nil)) pa_nil)))
  (pss_cons (ps_if (pt_cmpR op_ge (pv 1) (pe_op op_pow pe_int pe_int) (nomark _))
  (pss_one (ps_ret (pe_lst (pa_cons (pe_op op_sub (pv 1) (pe_op op_pow pe_int pe_int)) (pa_cons (pe_op op_mod (pv 1) pe_int) (pa_cons pe_int pa_nil))))))
  pss_nil)
  (pss_one (ps_ret (pe_lst (pa_cons pe_int (pa_cons (pe_op op_mod (pv 1) pe_int) (pa_cons pe_int pa_nil)))))))), ?_⟩
    walk_at "rd"
    have cp : CPow 10 18 := ⟨by decide, by decide, by decide⟩
    refine .inl ⟨cp, ite2 (fun h => ⟨cp, by decide, by rw [sizeLine_eq]; decide, fun p hp => q p _ _ _ hp⟩) (fun h => ⟨by decide, by rw [sizeLine_eq]; decide, fun p hp => q p _ _ _ hp⟩)⟩
theorem ok__law_take (T : Txt K mg) : FnOk Pg w K mg base CX0 1 T.a__law_take T.d__law_take ["pool", "limit"] spTake := by
  refine T.f__law_take.ok sc__law_take (fun vs H Q E h => ?_) (fun cdv A outer s H vs Q E hr h => ?_)
  · obtain ⟨p, n, rfl, _⟩ := h
    rfl
  · obtain ⟨p, n, rfl, ⟨o, hp, a, b, c, rfl⟩, hn, hn2, q⟩ := h
    refine ⟨_, (pss_cons (ps_asg (pe_op op_add (pe_ix (r := rIxL K) ix_list (pv 0) pe_int (fun _ _ => rfl)) pe_int) (pg_sub (pv 0) pe_int set_list))
  (pss_cons (ps_if (pt_cmpR op_gt (pe_ix (r := rIxL K) ix_list (pv 0) pe_int (fun _ _ => rfl)) pe_int (nomark _))
  (pss_cons (ps_set (i := 2) sc__law_take.nd rfl (Or.inl rfl) (pe_op op_mod (pe_callTy call_int1 (by rfl) T.z_int (by decide +kernel) (pa_cons (pe_ix (r := rIxL K) ix_list (pv 0) pe_int (fun _ _ => rfl)) pa_nil)) (pv 1)))
  (pss_cons (ps_asg (pe_op op_fdiv (pe_callTy call_int1 (by rfl) T.z_int (by decide +kernel) (pa_cons (pe_ix (r := rIxL K) ix_list (pv 0) pe_int (fun _ _ => rfl)) pa_nil)) (pv 1)) (pg_sub (pv 0) pe_int set_list))
  (pss_one (ps_ret (pv 2)))))
  pss_nil)
  (pss_cons (ps_set (i := 3) sc__law_take.nd rfl (Or.inl rfl) (pe_op op_mod (pe_callTy call_int1 (by rfl) T.z_int (by decide +kernel) (pa_cons (pe_op op_add (pe_op op_add (pe_op op_mul (pe_ix (r := rIxL K) ix_list (pv 0) pe_int (fun _ _ => rfl)) pe_int) (pe_op op_mul (pe_ix (r := rIxL K) ix_list (pv 0) pe_int (fun _ _ => rfl)) pe_int)) pe_int) pa_nil)) pe_int))
  (pss_cons (ps_set (i := 4) sc__law_take.nd rfl (Or.inl rfl) (pe_op op_mod (pe_callTy call_int1 (by rfl) T.z_int (by decide +kernel) (pa_cons (pe_op op_add (pe_op op_mul (pv 3) (pv 3)) (pe_op op_fdiv (pv 3) pe_int)) pa_nil)) pe_int))
  (pss_cons (ps_set (i := 5) sc__law_take.nd rfl (Or.inl rfl) (pe_op op_mod (pe_callTy call_int1 (by rfl) T.z_int (by decide +kernel) (pa_cons (pe_op op_mul (pv 4) (pe_op op_add (pe_op op_add (pe_op op_fdiv (pv 4) pe_int) (pe_ix (r := rIxL K) ix_list (pv 0) pe_int (fun _ _ => rfl))) pe_int)) pa_nil)) pe_int))
  (pss_one (ps_ret (pe_op op_mod (pe_op op_fdiv (pv 5) pe_int) (pv 1))))))))), ?_⟩
    walk_at "rd"
    have i2 : ixN 3 2 = some 2 := by decide
    have i0 : ixN 3 0 = some 0 := by decide
    refine ⟨_, SqL.of hp, .int c, at2, c, rfl, _, hp, 2, i2, ?_⟩
    have e1 : ([V.int a, V.int b, V.int c] : List V).set 2 (.int (c + 1)) = [.int a, .int b, .int (c + 1)] := rfl
    rw [e1]
    have k1 : Kp H (upd H p (.lst [.int a, .int b, .int (c + 1)])) := Kp.draw ⟨_, hp, a, b, c, rfl⟩
    have g1 : upd H p (.lst [.int a, .int b, .int (c + 1)]) p = some (.lst [.int a, .int b, .int (c + 1)]) := upd_same
    generalize upd H p (.lst [.int a, .int b, .int (c + 1)]) = H1 at *
    have hS := SqL.of (K := K) g1
    have fin : ∀ x : Int, ∃ r : Nat, r < n ∧ x % (n : Int) = (r : Int) := fun x => ⟨(x % (n : Int)).toNat, by
      have := Int.emod_lt_of_pos x (show (0 : Int) < n by omega)
      omega, by
      have := Int.emod_nonneg x (show (n : Int) ≠ 0 by omega)
      omega⟩
    refine ⟨_, hS, .int a, at0, a, rfl, ite2 (fun h => ?_) (fun h => ?_)⟩
    · refine ⟨_, hS, .int a, at0, .inl ⟨a, rfl, by omega, _, hS, .int a, at0, .inl ⟨a, rfl, ⟨by omega, by omega⟩, _, g1, 0, i0, ?_⟩⟩⟩
      obtain ⟨r, hr, er⟩ := fin a
      rw [er]
      exact q r _ hr (k1.trans (Kp.draw ⟨_, g1, a, b, c + 1, rfl⟩))
    · have m1 := Int.emod_nonneg (b * 48271 + (c + 1) * 69621 + 11) (show (2147483647 : Int) ≠ 0 by decide)
      have m2 := Int.emod_lt_of_pos (b * 48271 + (c + 1) * 69621 + 11) (show (0 : Int) < 2147483647 by decide)
      refine ⟨_, hS, .int b, at1, b, rfl, .inr ⟨by decide, by decide⟩, _, hS, .int (c + 1), at2, c + 1, rfl, .inr ⟨by decide, by decide⟩, .inl ⟨by decide, ?_⟩⟩
      generalize (b * 48271 + (c + 1) * 69621 + 11) % 2147483647 = x at *
      refine ⟨.inl ⟨by omega, by omega⟩, ⟨by decide, by decide⟩, .inl ⟨by decide, ?_⟩⟩
      have m3 := Int.emod_nonneg (x * x + x / 4099) (show (2147483629 : Int) ≠ 0 by decide)
      have m4 := Int.emod_lt_of_pos (x * x + x / 4099) (show (0 : Int) < 2147483629 by decide)
      generalize (x * x + x / 4099) % 2147483629 = y at *
      refine ⟨⟨by decide, by decide⟩, _, hS, .int (c + 1), at2, c + 1, rfl, .inl ⟨by omega, by omega⟩, .inl ⟨by decide, ⟨by decide, by decide⟩, by omega, ?_⟩⟩
      obtain ⟨r, hr, er⟩ := fin (y * (y / 97 + (c + 1) + 1) % 2147483587 / 5)
      rw [er]
      exact q r _ hr k1
end
end K89

namespace K89
open PySem PySem.Spec PyProof.Rows L2 Lv
local macro_rules | `(tactic| walk_at "rd") => `(tactic| simp only [spTake, r_seq, r_next, r_break, r_cont, r_asg, r_name, r_drop, r_ret, r_retN, r_if, r_var, r_c, r_op, r_un, r_test, r_B, r_and, r_or, r_not, r_andV, r_orV, r_notV, r_ifE, r_nil, r_cons, r_tup, r_lst, r_call, r_CB, r_BM, r_BM0, r_M1, r_M0, r_Sl, r_part, r_nopart, r_chain, r_I0, r_I, r_eq, r_ne, r_U, r_ixL, r_ixT, r_ixS, r_slL, r_slS, r_append, r_pop, r_sub, r_setL, r_cat, r_rep, r_in, r_strs, r_match, r_lc, r_for, r_iStr, r_iList, r_iTup, r_iRng1, r_iRng2, r_iEnumK, sign_inj, r_all, r_tStrs, r_gTup, r_gCons, r_gNil, wipe, cx_K, cx_N, cx_sc, r_stNil, st_start, List.set_cons_zero, List.set_cons_succ, List.getElem?_cons_zero, List.getElem?_cons_succ, Option.some.injEq, V.int.injEq, V.str.injEq, V.bl.injEq, V.ref.injEq, exists_eq_left', exists_eq_left, exists_eq', exists_and_left, true_and, and_true, exists_eq, exists_const, List.cons_append, List.nil_append, List.append_nil, List.cons.injEq, List.map_cons, List.map_nil, List.length_cons, List.length_nil, Nat.reduceAdd, Nat.reduceSub, List.replicate_succ, List.replicate_zero, Bool.not_eq_true', Bool.not_true, Bool.not_false, Bool.false_eq_true, if_true, if_false, ite_true, ite_false, decide_eq_true_eq, sc_ss, sc_ii, sc_bb, reduceCtorEq])
local macro_rules | `(tactic| walk_at "v") => `(tactic| refine ⟨_, rfl, ?_⟩)
local macro_rules | `(tactic| walk_at "sz") => `(tactic| first | exact Nat.le_trans (by assumption) (by decide) | exact Nat.zero_le _ | (rw [sizeLine_eq]; simp <;> omega) | omega)

/-! ### the law's lines -/
/-- texts, each of at most n signs -/
def Txs (n : Nat) (zs : List Str) : Prop := ∀ z ∈ zs, z.length ≤ n
theorem Txs.nil {n : Nat} : Txs n [] := fun z h => by cases h
theorem Txs.cons {n : Nat} {z : Str} {zs : List Str} (h : z.length ≤ n) (t : Txs n zs) : Txs n (z :: zs) := fun x hx => by
  rcases List.mem_cons.mp hx with e | e
  · exact e ▸ h
  · exact t x e
theorem Txs.app {n : Nat} {xs ys : List Str} (h : Txs n xs) (t : Txs n ys) : Txs n (xs ++ ys) := fun x hx => (List.mem_append.mp hx).elim (h x) (t x)
theorem Txs.up {n m : Nat} {xs : List Str} (h : Txs n xs) (k : n ≤ m) : Txs m xs := fun x hx => Nat.le_trans (h x hx) k
theorem Txs.of {n : Nat} {xs : List Str} (h : xs.all (fun z => decide (z.length ≤ n)) = true) : Txs n xs := fun x hx => of_decide_eq_true (List.all_eq_true.mp h x hx)
theorem pick {zs : List Str} {r : Nat} (h : r < zs.length) : ∃ z ∈ zs, atI (zs.map V.str) (r : Int) = some (.str z) := ⟨zs[r], List.getElem_mem h, ati (j := r) rfl (by rw [List.getElem?_map, List.getElem?_eq_getElem h]; rfl)⟩
theorem log_small {r : Nat} (h : r < 10000000) : ((r : Int)).natAbs.log2 < 1920 := by
  rw [Int.natAbs_natCast]
  by_cases e : r = 0
  · subst e
    decide
  · rw [Nat.log2_lt e]
    exact Nat.lt_trans h (by decide +kernel)
theorem num_len2 {r : Nat} (h : r < 10000000) : (Str.ofString (toString (r : Int))).length ≤ 1921 := int_text_len_1921 (log_small h)
theorem szl {n : Nat} (h : n ≤ 900000) : n ≤ sizeLine := sz6 (by omega)
def spNames : Sp := fun vs H Q _ => ∃ (p : Addr) (c : Nat), vs = [.ref p, .int c] ∧ PoolAt H p ∧ c ≤ 100 ∧ ∀ H' a zs, Kp H H' → H a = none → H' a = some (.lst (zs.map V.str)) → zs.length = c → Txs 10 zs → Q (.ref a) H'
def spLine (n : Nat) : Sp := fun vs H Q _ => ∃ p : Addr, vs = [.ref p] ∧ PoolAt H p ∧ ∀ z H', z.length ≤ n → Kp H H' → Q (.str z) H'
def spDeed (K : PySem.W.Frag) : Sp := fun vs H Q _ => ∃ (p a : Addr) (zs : List Str), vs = [.ref p, .ref a] ∧ PoolAt H p ∧ SqL K H a (zs.map V.str) ∧ Txs 10 zs ∧ 1 ≤ zs.length ∧ zs.length ≤ 100 ∧ ∀ z H', z.length ≤ 4000 → Kp H H' → Q (.str z) H'
section
variable {w : World} {K : PySem.W.Frag} {mg : Str → Option Value} {base : Heap}
theorem ok__law_number (T : Txt K mg) : FnOk Pg w K mg base CX0 2 T.a__law_number T.d__law_number ["pool"] (spLine 1921) := by
  have G__law_take := ok__law_take (w := w) (base := base) T
  refine T.f__law_number.ok sc__law_number (fun vs H Q E h => ?_) (fun cdv A outer s H vs Q E hr h => ?_)
  · obtain ⟨p, rfl, _⟩ := h
    rfl
  · obtain ⟨p, rfl, hp, q⟩ := h
    refine ⟨_, (pss_cons (ps_if (pt_cmpR op_eq (pe_call G__law_take (hr.mono (by omega)) (by rfl) T.g__law_take T.f__law_take.kp T.b__law_take .nil pass0 (pa_cons (pv 0) (pa_cons pe_int pa_nil))) pe_int (nomark _))
  (pss_one (ps_ret (pe_callTy call_str_int (by rfl) T.z_str (by decide +kernel) (pa_cons (pe_call G__law_take (hr.mono (by omega)) (by rfl) T.g__law_take T.f__law_take.kp T.b__law_take .nil pass0 (pa_cons (pv 0) (pa_cons pe_int pa_nil))) pa_nil))))
  pss_nil)
  (pss_one (ps_ret (pe_callTy call_str_int (by rfl) T.z_str (by decide +kernel) (pa_cons (pe_call G__law_take (hr.mono (by omega)) (by rfl) T.g__law_take T.f__law_take.kp T.b__law_take .nil pass0 (pa_cons (pv 0) (pa_cons pe_int pa_nil))) pa_nil))))), ?_⟩
    walk_at "rd"
    refine ⟨p, 3, ⟨rfl, rfl⟩, hp, by decide, by decide, fun r H1 hr1 k1 => ite2 (fun h => ?_) (fun h => ?_)⟩
    · exact ⟨p, 1000000, ⟨rfl, rfl⟩, k1.pool hp, by decide, by decide, fun r2 H2 hr2 k2 => ⟨log_small (by omega), q _ _ (num_len2 (by omega)) (k1.trans k2)⟩⟩
    · exact ⟨p, 12, ⟨rfl, rfl⟩, k1.pool hp, by decide, by decide, fun r2 H2 hr2 k2 => ⟨log_small (by omega), q _ _ (num_len2 (by omega)) (k1.trans k2)⟩⟩
theorem ok__law_plain_line (T : Txt K mg) : FnOk Pg w K mg base CX0 2 T.a__law_plain_line T.d__law_plain_line ["pool"] (spLine 20) := by
  have G__law_take := ok__law_take (w := w) (base := base) T
  refine T.f__law_plain_line.ok sc__law_plain_line (fun vs H Q E h => ?_) (fun cdv A outer s H vs Q E hr h => ?_)
  · obtain ⟨p, rfl, _⟩ := h
    rfl
  · obtain ⟨p, rfl, hp, q⟩ := h
    refine ⟨_, (pss_cons (ps_set (i := 1) sc__law_plain_line.nd rfl (Or.inl rfl) (pe_lst (pa_cons pe_str (pa_cons pe_str (pa_cons pe_str (pa_cons pe_str (pa_cons pe_str (pa_cons pe_str (pa_cons pe_str (pa_cons pe_str (pa_cons pe_str pa_nil)))))))))))
  (pss_cons (ps_set (i := 1) sc__law_plain_line.nd rfl (Or.inl rfl) (pe_op op_cat (pv 1) (pe_lst (pa_cons pe_str (pa_cons pe_str (pa_cons pe_str (pa_cons pe_str (pa_cons pe_str pa_nil))))))))
  (pss_one (ps_ret (pe_ix (r := rIxL K) ix_list (pv 1) (pe_call G__law_take (hr.mono (by omega)) (by rfl) T.g__law_take T.f__law_take.kp T.b__law_take .nil pass0 (pa_cons (pv 0) (pa_cons pe_int pa_nil))) (fun _ _ => rfl)))))), ?_⟩
    walk_at "rd"
    refine ⟨by rw [sizeLine_eq]; decide, fun a ha => ⟨by rw [sizeLine_eq]; decide, fun b hb => ?_⟩⟩
    refine ⟨_, Evl.Ex.new hb _ _ upd_same, _, upd_same, by rw [sizeLine_eq]; decide, fun c hc => ?_⟩
    have k1 : Kp H _ := (Kp.new ha).trans ((Kp.new hb).trans (Kp.new (o := .lst ((["undo", "redo", "send", "guard free", "guard wise", "guard sure", "ask verdict", "ask able", "ask wise", "ask sure", "ask left", "ask worst", "ask ends", "ask riders"] : List Str).map V.str)) hc))
    refine ⟨p, 14, ⟨rfl, rfl⟩, k1.pool hp, by decide, by decide, fun r H2 hr2 k2 => ?_⟩
    obtain ⟨zs, hzs⟩ : ∃ zs : List Str, zs = (["undo", "redo", "send", "guard free", "guard wise", "guard sure", "ask verdict", "ask able", "ask wise", "ask sure", "ask left", "ask worst", "ask ends", "ask riders"] : List Str) := ⟨_, rfl⟩
    obtain ⟨z, hz, ez⟩ := pick (zs := zs) (r := r) (by rw [hzs]; exact hr2)
    refine ⟨zs.map V.str, k2.seq np_strs (SqL.of ?_), .str z, ez, q z H2 ?_ (k1.trans k2)⟩
    · rw [hzs]
      exact upd_same
    · rw [hzs] at hz
      exact Txs.of (n := 20) (by decide +kernel) z hz
theorem ok__law_opening_line (T : Txt K mg) : FnOk Pg w K mg base CX0 2 T.a__law_opening_line T.d__law_opening_line ["pool"] (spLine 2000) := by
  have G__law_take := ok__law_take (w := w) (base := base) T
  refine T.f__law_opening_line.ok sc__law_opening_line (fun vs H Q E h => ?_) (fun cdv A outer s H vs Q E hr h => ?_)
  · obtain ⟨p, rfl, _⟩ := h
    rfl
  · obtain ⟨p, rfl, hp, q⟩ := h
    refine ⟨_, (pss_cons (ps_set (i := 1) sc__law_opening_line.nd rfl (Or.inl rfl) (pe_call G__law_take (hr.mono (by omega)) (by rfl) T.g__law_take T.f__law_take.kp T.b__law_take .nil pass0 (pa_cons (pv 0) (pa_cons pe_int pa_nil))))
  (pss_cons (ps_if (pt_cmpR op_eq (pv 1) pe_int (nomark _))
  (pss_one (ps_ret pe_str))
  pss_nil)
  (pss_cons (ps_if (pt_cmpR op_eq (pv 1) pe_int (nomark _))
  (pss_one (ps_ret (pe_op op_add_str pe_str (pe_callTy call_str_int (by rfl) T.z_str (by decide +kernel) (pa_cons (pe_call G__law_take (hr.mono (by omega)) (by rfl) T.g__law_take T.f__law_take.kp T.b__law_take .nil pass0 (pa_cons (pv 0) (pa_cons pe_int pa_nil))) pa_nil)))))
  pss_nil)
  (pss_one (ps_ret (pe_op op_add_str pe_str (pe_ix (r := rIxL K) ix_list (pe_lst (pa_cons pe_str (pa_cons pe_str (pa_cons pe_str (pa_cons pe_str pa_nil))))) (pe_call G__law_take (hr.mono (by omega)) (by rfl) T.g__law_take T.f__law_take.kp T.b__law_take .nil pass0 (pa_cons (pv 0) (pa_cons pe_int pa_nil))) (fun _ _ => rfl)))))))), ?_⟩
    walk_at "rd"
    refine ⟨p, 3, ⟨rfl, rfl⟩, hp, by decide, by decide, fun r H1 hr1 k1 => ite2 (fun h => q _ _ (by decide +kernel) k1) (fun h => ite2 (fun h => ?_) (fun h => ?_))⟩
    · refine ⟨p, 10, ⟨rfl, rfl⟩, k1.pool hp, by decide, by decide, fun r2 H2 hr2 k2 => ⟨log_small (by omega), ?_⟩⟩
      have := num_len2 (r := r2) (by omega)
      have e : (Str.ofString "again ").length = 6 := by decide +kernel
      refine ⟨szl (by omega), q _ _ ?_ (k1.trans k2)⟩
      rw [Str.length_append]
      omega
    · refine ⟨by rw [sizeLine_eq]; decide, fun a ha => ⟨p, 4, ⟨rfl, rfl⟩, (k1.nw ha).pool hp, by decide, by decide, fun r2 H2 hr2 k2 => ?_⟩⟩
      obtain ⟨zs, hzs⟩ : ∃ zs : List Str, zs = (["sure", "open", "dead", "unfair"] : List Str) := ⟨_, rfl⟩
      obtain ⟨z, hz, ez⟩ := pick (zs := zs) (r := r2) (by rw [hzs]; exact hr2)
      have hz2 : z.length ≤ 20 := by
        rw [hzs] at hz
        exact Txs.of (n := 20) (by decide +kernel) z hz
      have e : (Str.ofString "if ").length = 3 := by decide +kernel
      refine ⟨zs.map V.str, k2.seq np_strs (SqL.of ?_), .str z, ez, z, rfl, szl (by omega), q _ _ ?_ ((k1.nw ha).trans k2)⟩
      · rw [hzs]
        exact upd_same
      · rw [Str.length_append]
        omega
theorem ok__law_deed_line (T : Txt K mg) : FnOk Pg w K mg base CX0 3 T.a__law_deed_line T.d__law_deed_line ["pool", "names"] (spDeed K) := by
  have G__law_take := ok__law_take (w := w) (base := base) T
  have G__law_number := ok__law_number (w := w) (base := base) T
  refine T.f__law_deed_line.ok sc__law_deed_line (fun vs H Q E h => ?_) (fun cdv A outer s H vs Q E hr h => ?_)
  · obtain ⟨p, a, zs, rfl, _⟩ := h
    rfl
  · obtain ⟨p, a, zs, rfl, hp, hS, hz, h1, h2, q⟩ := h
    refine ⟨_, (pss_cons (ps_set (i := 2) sc__law_deed_line.nd rfl (Or.inl rfl) (pe_call G__law_take (hr.mono (by omega)) (by rfl) T.g__law_take T.f__law_take.kp T.b__law_take .nil pass0 (pa_cons (pv 0) (pa_cons pe_int pa_nil))))
  (pss_cons (ps_set (i := 3) sc__law_deed_line.nd rfl (Or.inl rfl) (pe_ix (r := rIxL K) ix_list (pv 1) (pe_call G__law_take (hr.mono (by omega)) (by rfl) T.g__law_take T.f__law_take.kp T.b__law_take .nil pass0 (pa_cons (pv 0) (pa_cons (pe_callB call_len_seq (by rfl) T.z_len PySem.boot_len (pa_cons (pv 1) pa_nil)) pa_nil))) (fun _ _ => rfl)))
  (pss_cons (ps_if (pt_cmpR op_eq (pv 2) pe_int (nomark _))
  (pss_one (ps_ret (pe_op op_add_str (pe_op op_add_str (pe_op op_add_str (pe_op op_add_str (pe_op op_add_str pe_str (pv 3)) pe_str) (pe_call G__law_number (hr.mono (by omega)) (by rfl) T.g__law_number T.f__law_number.kp T.b__law_number .nil pass0 (pa_cons (pv 0) pa_nil))) pe_str) (pe_call G__law_number (hr.mono (by omega)) (by rfl) T.g__law_number T.f__law_number.kp T.b__law_number .nil pass0 (pa_cons (pv 0) pa_nil)))))
  pss_nil)
  (pss_cons (ps_if (pt_cmpR op_lt (pv 2) pe_int (nomark _))
  (pss_cons (ps_set (i := 4) sc__law_deed_line.nd rfl (Or.inl rfl) (pe_ix (r := rIxL K) ix_list (pv 1) (pe_call G__law_take (hr.mono (by omega)) (by rfl) T.g__law_take T.f__law_take.kp T.b__law_take .nil pass0 (pa_cons (pv 0) (pa_cons (pe_callB call_len_seq (by rfl) T.z_len PySem.boot_len (pa_cons (pv 1) pa_nil)) pa_nil))) (fun _ _ => rfl)))
  (pss_one (ps_ret (pe_op op_add_str (pe_op op_add_str (pe_op op_add_str (pe_op op_add_str (pe_op op_add_str (pe_op op_add_str pe_str (pv 3)) pe_str) (pv 4)) pe_str) (pe_ix (r := rIxL K) ix_list (pv 1) (pe_call G__law_take (hr.mono (by omega)) (by rfl) T.g__law_take T.f__law_take.kp T.b__law_take .nil pass0 (pa_cons (pv 0) (pa_cons (pe_callB call_len_seq (by rfl) T.z_len PySem.boot_len (pa_cons (pv 1) pa_nil)) pa_nil))) (fun _ _ => rfl))) (pe_ix (r := rIxL K) ix_list (pe_lst (pa_cons pe_str (pa_cons pe_str pa_nil))) (pe_op op_sub (pv 2) pe_int) (fun _ _ => rfl))))))
  pss_nil)
  (pss_one (ps_ret (pe_op op_add_str (pe_ix (r := rIxL K) ix_list (pe_lst (pa_cons pe_str (pa_cons pe_str (pa_cons pe_str (pa_cons pe_str pa_nil))))) (pe_op op_sub (pv 2) pe_int) (fun _ _ => rfl)) (pv 3)))))))), ?_⟩
    walk_at "rd"
    have l1 : (Str.ofString "station ").length = 8 := by decide +kernel
    have l2 : (Str.ofString " ").length = 1 := by decide +kernel
    have l3 : (Str.ofString "book ").length = 5 := by decide +kernel
    have zn : ∀ {H'}, Kp H H' → SqL K H' a (zs.map V.str) := fun k => k.seq np_strs hS
    have lm : (zs.map V.str).length = zs.length := List.length_map _
    refine ⟨p, 7, ⟨rfl, rfl⟩, hp, by decide, by decide, fun r H1 hr1 k1 => ⟨_, .inl (zn k1), p, zs.length, ⟨rfl, by rw [lm]⟩, k1.pool hp, h1, by omega, fun r2 H2 hr2 k2 => ?_⟩⟩
    obtain ⟨z, hz1, ez⟩ := pick hr2
    have hz1 := hz z hz1
    have k2 := k1.trans k2
    refine ⟨_, zn k2, .str z, ez, ite2 (fun c1 => ?_) (fun c1 => ite2 (fun c2 => ?_) (fun c2 => ?_))⟩
    · refine ⟨z, rfl, szl (by omega), szl (by simp only [Str.length_append]; omega), p, rfl, k2.pool hp, fun n1 H3 hn1 k3 => ⟨n1, rfl, szl (by simp only [Str.length_append]; omega), szl (by simp only [Str.length_append]; omega), p, rfl, (k2.trans k3).pool hp, fun n2 H4 hn2 k4 => ⟨n2, rfl, szl (by simp only [Str.length_append]; omega), q _ _ (by simp only [Str.length_append]; omega) (k2.trans (k3.trans k4))⟩⟩⟩
    · refine ⟨_, .inl (zn k2), p, zs.length, ⟨rfl, by rw [lm]⟩, k2.pool hp, h1, by omega, fun r3 H3 hr3 k3 => ?_⟩
      obtain ⟨y, hy1, ey⟩ := pick hr3
      have hy1 := hz y hy1
      have k3 := k2.trans k3
      refine ⟨_, zn k3, .str y, ey, z, rfl, szl (by omega), szl (by simp only [Str.length_append]; omega), y, rfl, szl (by simp only [Str.length_append]; omega), szl (by simp only [Str.length_append]; omega), _, .inl (zn k3), p, zs.length, ⟨rfl, by rw [lm]⟩, k3.pool hp, h1, by omega, fun r4 H4 hr4 k4 => ?_⟩
      obtain ⟨x, hx1, ex⟩ := pick hr4
      have hx1 := hz x hx1
      have k4 := k3.trans k4
      refine ⟨_, zn k4, .str x, ex, x, rfl, szl (by simp only [Str.length_append]; omega), by rw [sizeLine_eq]; decide, fun b hb => ?_⟩
      obtain ⟨us, hus⟩ : ∃ us : List Str, us = (["", " unkept"] : List Str) := ⟨_, rfl⟩
      obtain ⟨u, hu, eu⟩ := pick (zs := us) (r := r - 1) (by rw [hus]; show r - 1 < 2; omega)
      have hu1 : u.length ≤ 20 := by
        rw [hus] at hu
        exact Txs.of (n := 20) (by decide +kernel) u hu
      refine ⟨us.map V.str, SqL.of (by rw [hus]; exact upd_same), .str u, ?_, u, rfl, szl (by simp only [Str.length_append]; omega), q _ _ (by simp only [Str.length_append]; omega) (k4.nw hb)⟩
      rw [← eu]
      congr 1
      omega
    · refine ⟨by rw [sizeLine_eq]; decide, fun b hb => ?_⟩
      obtain ⟨us, hus⟩ : ∃ us : List Str, us = (["cancel ", "go ", "bring ", "take "] : List Str) := ⟨_, rfl⟩
      obtain ⟨u, hu, eu⟩ := pick (zs := us) (r := r - 3) (by rw [hus]; show r - 3 < 4; omega)
      have hu1 : u.length ≤ 20 := by
        rw [hus] at hu
        exact Txs.of (n := 20) (by decide +kernel) u hu
      refine ⟨us.map V.str, SqL.of (by rw [hus]; exact upd_same), .str u, ?_, u, rfl, z, rfl, szl (by omega), q _ _ (by simp only [Str.length_append]; omega) (k2.nw hb)⟩
      rw [← eu]
      congr 1
      omega
end
end K89

namespace K89
open PySem PySem.Spec PyProof.Rows L2 Lv
local macro_rules | `(tactic| walk_at "rd") => `(tactic| simp only [spTake, r_seq, r_next, r_break, r_cont, r_asg, r_name, r_drop, r_ret, r_retN, r_if, r_var, r_c, r_op, r_un, r_test, r_B, r_and, r_or, r_not, r_andV, r_orV, r_notV, r_ifE, r_nil, r_cons, r_tup, r_lst, r_call, r_CB, r_BM, r_BM0, r_M1, r_M0, r_Sl, r_part, r_nopart, r_chain, r_I0, r_I, r_eq, r_ne, r_U, r_ixL, r_ixT, r_ixS, r_slL, r_slS, r_append, r_pop, r_sub, r_setL, r_cat, r_rep, r_in, r_strs, r_match, r_lc, r_for, r_iStr, r_iList, r_iTup, r_iRng1, r_iRng2, r_iEnumK, sign_inj, r_all, r_tStrs, r_gTup, r_gCons, r_gNil, wipe, cx_K, cx_N, cx_sc, r_stNil, st_start, List.set_cons_zero, List.set_cons_succ, List.getElem?_cons_zero, List.getElem?_cons_succ, Option.some.injEq, V.int.injEq, V.str.injEq, V.bl.injEq, V.ref.injEq, exists_eq_left', exists_eq_left, exists_eq', exists_and_left, true_and, and_true, exists_eq, exists_const, List.cons_append, List.nil_append, List.append_nil, List.cons.injEq, List.map_cons, List.map_nil, List.length_cons, List.length_nil, Nat.reduceAdd, Nat.reduceSub, List.replicate_succ, List.replicate_zero, Bool.not_eq_true', Bool.not_true, Bool.not_false, Bool.false_eq_true, if_true, if_false, ite_true, ite_false, decide_eq_true_eq, sc_ss, sc_ii, sc_bb, reduceCtorEq])
local macro_rules | `(tactic| walk_at "v") => `(tactic| refine ⟨_, rfl, ?_⟩)
local macro_rules | `(tactic| walk_at "sz") => `(tactic| first | exact Nat.le_trans (by assumption) (by decide) | exact Nat.zero_le _ | (rw [sizeLine_eq]; simp <;> omega) | omega)

def ls__law_odd_line_0 : List Str := ["", "again 10", "again x", "again", "again  3", "again 03", "again -1", "again 1 "]
def ls__law_odd_line_1 : List Str := ["if maybe", "if", "if free", "if  sure", "guard open", "guard", "guard free free", "guard wise "]
def ls__law_odd_line_2 : List Str := ["ask", "ask able able", "ask free", "ask  able", "asks able", "send a", "undo 1", "redo "]
def ls__law_odd_line_3 : List Str := ["end end", "END", "All", " all", "verdict", "go", "go a b", "station a 02 0", "station a 2"]
def ls__law_odd_line_4 : List Str := ["station a 2 0 0", "station a 1000000 0", "book a b", "book x a b kept", "cancel ninesigns"]
def ls__law_odd_line_5 : List Str := ["take a-b", "station A 1 0", "let a", "go aB", "go a_b"]
def ls__law_names_0 : List Str := ["a", "north", "b2", "m", "kay9", "zz", "p10", "p9", "quay7", "b", "a1", "x"]
def ls__law_names_1 : List Str := ["lot", "w", "r12345", "c3", "y", "r1", "hill", "s", "d", "longname", "e5", "g"]
section
variable {w : World} {K : PySem.W.Frag} {mg : Str → Option Value} {base : Heap}
theorem ok__law_odd_line (T : Txt K mg) : FnOk Pg w K mg base CX0 2 T.a__law_odd_line T.d__law_odd_line ["pool"] (spLine 2000) := by
  have G__law_take := ok__law_take (w := w) (base := base) T
  refine T.f__law_odd_line.ok sc__law_odd_line (fun vs H Q E h => ?_) (fun cdv A outer s H vs Q E hr h => ?_)
  · obtain ⟨p, rfl, _⟩ := h
    rfl
  · obtain ⟨p, rfl, hp, q⟩ := h
    refine ⟨_, (pss_cons (ps_set (i := 1) sc__law_odd_line.nd rfl (Or.inl rfl) (pe_strs (zs := ls__law_odd_line_0) (pe_lst (pa_cons pe_str (pa_cons pe_str (pa_cons pe_str (pa_cons pe_str (pa_cons pe_str (pa_cons pe_str (pa_cons pe_str (pa_cons pe_str pa_nil)))))))))))
  (pss_cons (ps_set (i := 1) sc__law_odd_line.nd rfl (Or.inl rfl) (pe_op op_cat (pv 1) (pe_strs (zs := ls__law_odd_line_1) (pe_lst (pa_cons pe_str (pa_cons pe_str (pa_cons pe_str (pa_cons pe_str (pa_cons pe_str (pa_cons pe_str (pa_cons pe_str (pa_cons pe_str pa_nil))))))))))))
  (pss_cons (ps_set (i := 1) sc__law_odd_line.nd rfl (Or.inl rfl) (pe_op op_cat (pv 1) (pe_strs (zs := ls__law_odd_line_2) (pe_lst (pa_cons pe_str (pa_cons pe_str (pa_cons pe_str (pa_cons pe_str (pa_cons pe_str (pa_cons pe_str (pa_cons pe_str (pa_cons pe_str pa_nil))))))))))))
  (pss_cons (ps_set (i := 1) sc__law_odd_line.nd rfl (Or.inl rfl) (pe_op op_cat (pv 1) (pe_strs (zs := ls__law_odd_line_3) (pe_lst (pa_cons pe_str (pa_cons pe_str (pa_cons pe_str (pa_cons pe_str (pa_cons pe_str (pa_cons pe_str (pa_cons pe_str (pa_cons pe_str (pa_cons pe_str pa_nil)))))))))))))
  (pss_cons (ps_set (i := 1) sc__law_odd_line.nd rfl (Or.inl rfl) (pe_op op_cat (pv 1) (pe_strs (zs := ls__law_odd_line_4) (pe_lst (pa_cons pe_str (pa_cons pe_str (pa_cons pe_str (pa_cons pe_str (pa_cons pe_str pa_nil)))))))))
  (pss_one (ps_ret (pe_ix (r := rIxL K) ix_list (pe_op op_cat (pv 1) (pe_strs (zs := ls__law_odd_line_5) (pe_lst (pa_cons pe_str (pa_cons pe_str (pa_cons pe_str (pa_cons pe_str (pa_cons pe_str pa_nil)))))))) (pe_call G__law_take (hr.mono (by omega)) (by rfl) T.g__law_take T.f__law_take.kp T.b__law_take .nil pass0 (pa_cons (pv 0) (pa_cons pe_int pa_nil))) (fun _ _ => rfl))))))))), ?_⟩
    walk_at "rd"
    refine ⟨szl (by decide), fun a0 ha0 => ?_⟩
    have k0 : Kp H (upd H a0 (.lst (ls__law_odd_line_0.map V.str))) := Kp.new ha0
    have g0 : upd H a0 (.lst (ls__law_odd_line_0.map V.str)) a0 = some (.lst (ls__law_odd_line_0.map V.str)) := upd_same
    have t0 : Txs 40 ls__law_odd_line_0 := Txs.of (by decide +kernel)
    have l0 : ls__law_odd_line_0.length = 8 := by decide
    generalize ls__law_odd_line_0 = z0 at *
    generalize upd H a0 (.lst (z0.map V.str)) = H0 at *
    refine ⟨szl (by decide), fun b1 hb1 => ⟨_, Evl.Ex.new hb1 _ _ g0, _, upd_same, szl (by rw [List.length_map, List.length_map, l0]; decide), fun a1 ha1 => ?_⟩⟩
    rw [← List.map_append]
    have k1 : Kp H _ := k0.trans ((Kp.new hb1).trans (Kp.new (o := .lst ((z0 ++ ls__law_odd_line_1).map V.str)) ha1))
    have g1 : upd (upd H0 b1 (.lst (ls__law_odd_line_1.map V.str))) a1 (.lst ((z0 ++ ls__law_odd_line_1).map V.str)) a1 = some (.lst ((z0 ++ ls__law_odd_line_1).map V.str)) := upd_same
    have t1 : Txs 40 (z0 ++ ls__law_odd_line_1) := t0.app (Txs.of (by decide +kernel))
    have l1 : (z0 ++ ls__law_odd_line_1).length = 16 := by rw [List.length_append, l0]; decide
    generalize z0 ++ ls__law_odd_line_1 = z1 at *
    generalize upd (upd H0 b1 (.lst (ls__law_odd_line_1.map V.str))) a1 (.lst (z1.map V.str)) = H1 at *
    refine ⟨szl (by decide), fun b2 hb2 => ⟨_, Evl.Ex.new hb2 _ _ g1, _, upd_same, szl (by rw [List.length_map, List.length_map, l1]; decide), fun a2 ha2 => ?_⟩⟩
    rw [← List.map_append]
    have k2 : Kp H _ := k1.trans ((Kp.new hb2).trans (Kp.new (o := .lst ((z1 ++ ls__law_odd_line_2).map V.str)) ha2))
    have g2 : upd (upd H1 b2 (.lst (ls__law_odd_line_2.map V.str))) a2 (.lst ((z1 ++ ls__law_odd_line_2).map V.str)) a2 = some (.lst ((z1 ++ ls__law_odd_line_2).map V.str)) := upd_same
    have t2 : Txs 40 (z1 ++ ls__law_odd_line_2) := t1.app (Txs.of (by decide +kernel))
    have l2 : (z1 ++ ls__law_odd_line_2).length = 24 := by rw [List.length_append, l1]; decide
    generalize z1 ++ ls__law_odd_line_2 = z2 at *
    generalize upd (upd H1 b2 (.lst (ls__law_odd_line_2.map V.str))) a2 (.lst (z2.map V.str)) = H2 at *
    refine ⟨szl (by decide), fun b3 hb3 => ⟨_, Evl.Ex.new hb3 _ _ g2, _, upd_same, szl (by rw [List.length_map, List.length_map, l2]; decide), fun a3 ha3 => ?_⟩⟩
    rw [← List.map_append]
    have k3 : Kp H _ := k2.trans ((Kp.new hb3).trans (Kp.new (o := .lst ((z2 ++ ls__law_odd_line_3).map V.str)) ha3))
    have g3 : upd (upd H2 b3 (.lst (ls__law_odd_line_3.map V.str))) a3 (.lst ((z2 ++ ls__law_odd_line_3).map V.str)) a3 = some (.lst ((z2 ++ ls__law_odd_line_3).map V.str)) := upd_same
    have t3 : Txs 40 (z2 ++ ls__law_odd_line_3) := t2.app (Txs.of (by decide +kernel))
    have l3 : (z2 ++ ls__law_odd_line_3).length = 33 := by rw [List.length_append, l2]; decide
    generalize z2 ++ ls__law_odd_line_3 = z3 at *
    generalize upd (upd H2 b3 (.lst (ls__law_odd_line_3.map V.str))) a3 (.lst (z3.map V.str)) = H3 at *
    refine ⟨szl (by decide), fun b4 hb4 => ⟨_, Evl.Ex.new hb4 _ _ g3, _, upd_same, szl (by rw [List.length_map, List.length_map, l3]; decide), fun a4 ha4 => ?_⟩⟩
    rw [← List.map_append]
    have k4 : Kp H _ := k3.trans ((Kp.new hb4).trans (Kp.new (o := .lst ((z3 ++ ls__law_odd_line_4).map V.str)) ha4))
    have g4 : upd (upd H3 b4 (.lst (ls__law_odd_line_4.map V.str))) a4 (.lst ((z3 ++ ls__law_odd_line_4).map V.str)) a4 = some (.lst ((z3 ++ ls__law_odd_line_4).map V.str)) := upd_same
    have t4 : Txs 40 (z3 ++ ls__law_odd_line_4) := t3.app (Txs.of (by decide +kernel))
    have l4 : (z3 ++ ls__law_odd_line_4).length = 38 := by rw [List.length_append, l3]; decide
    generalize z3 ++ ls__law_odd_line_4 = z4 at *
    generalize upd (upd H3 b4 (.lst (ls__law_odd_line_4.map V.str))) a4 (.lst (z4.map V.str)) = H4 at *
    refine ⟨szl (by decide), fun b5 hb5 => ⟨_, Evl.Ex.new hb5 _ _ g4, _, upd_same, szl (by rw [List.length_map, List.length_map, l4]; decide), fun a5 ha5 => ?_⟩⟩
    rw [← List.map_append]
    have k5 : Kp H _ := k4.trans ((Kp.new hb5).trans (Kp.new (o := .lst ((z4 ++ ls__law_odd_line_5).map V.str)) ha5))
    have g5 : upd (upd H4 b5 (.lst (ls__law_odd_line_5.map V.str))) a5 (.lst ((z4 ++ ls__law_odd_line_5).map V.str)) a5 = some (.lst ((z4 ++ ls__law_odd_line_5).map V.str)) := upd_same
    have t5 : Txs 40 (z4 ++ ls__law_odd_line_5) := t4.app (Txs.of (by decide +kernel))
    have l5 : (z4 ++ ls__law_odd_line_5).length = 43 := by rw [List.length_append, l4]; decide
    generalize z4 ++ ls__law_odd_line_5 = z5 at *
    generalize upd (upd H4 b5 (.lst (ls__law_odd_line_5.map V.str))) a5 (.lst (z5.map V.str)) = H5 at *
    refine ⟨p, 43, ⟨rfl, rfl⟩, k5.pool hp, by decide, by decide, fun r H6 hr6 k6 => ?_⟩
    obtain ⟨z, hz, ez⟩ := pick (zs := z5) (r := r) (by omega)
    exact ⟨_, k6.seq np_strs (SqL.of g5), .str z, ez, q z H6 (Nat.le_trans (t5 z hz) (by decide)) (k5.trans k6)⟩
theorem ok__law_names (T : Txt K mg) : FnOk Pg w K mg base CX0 2 T.a__law_names T.d__law_names ["pool", "count"] spNames := by
  have G__law_take := ok__law_take (w := w) (base := base) T
  refine T.f__law_names.ok sc__law_names (fun vs H Q E h => ?_) (fun cdv A outer s H vs Q E hr h => ?_)
  · obtain ⟨p, c, rfl, _⟩ := h
    rfl
  · obtain ⟨p, c, rfl, hp, hc, q⟩ := h
    refine ⟨_, (pss_cons (ps_set (i := 2) sc__law_names.nd rfl (Or.inl rfl) (pe_call G__law_take (hr.mono (by omega)) (by rfl) T.g__law_take T.f__law_take.kp T.b__law_take .nil pass0 (pa_cons (pv 0) (pa_cons pe_int pa_nil))))
  (pss_cons (ps_set (i := 3) sc__law_names.nd rfl (Or.inl rfl) (pe_call G__law_take (hr.mono (by omega)) (by rfl) T.g__law_take T.f__law_take.kp T.b__law_take .nil pass0 (pa_cons (pv 0) (pa_cons pe_int pa_nil))))
  (pss_cons (ps_set (i := 4) sc__law_names.nd rfl (Or.inl rfl) (pe_strs (zs := ls__law_names_0) (pe_lst (pa_cons pe_str (pa_cons pe_str (pa_cons pe_str (pa_cons pe_str (pa_cons pe_str (pa_cons pe_str (pa_cons pe_str (pa_cons pe_str (pa_cons pe_str (pa_cons pe_str (pa_cons pe_str (pa_cons pe_str pa_nil)))))))))))))))
  (pss_cons (ps_set (i := 4) sc__law_names.nd rfl (Or.inl rfl) (pe_op op_cat (pv 4) (pe_strs (zs := ls__law_names_1) (pe_lst (pa_cons pe_str (pa_cons pe_str (pa_cons pe_str (pa_cons pe_str (pa_cons pe_str (pa_cons pe_str (pa_cons pe_str (pa_cons pe_str (pa_cons pe_str (pa_cons pe_str (pa_cons pe_str (pa_cons pe_str pa_nil))))))))))))))))
  (pss_cons (ps_set (i := 5) sc__law_names.nd rfl (Or.inl rfl) pe_str)
  (pss_cons (ps_set (i := 6) sc__law_names.nd rfl (Or.inl rfl) (pe_lst pa_nil))
  (pss_cons (ps_for PassesOwn.never rfl (pi_range1 (by rfl) T.z_range (pa_cons (pv 1) pa_nil)) (pg_name (i := 7) sc__law_names.nd rfl (Or.inl rfl))
  (pss_cons (ps_set (i := 8) sc__law_names.nd rfl (Or.inl rfl) (pe_ix (r := rIxL K) ix_list (pv 4) (pe_op op_mod (pe_op op_add (pv 3) (pe_op op_mul pe_int (pv 7))) pe_int) (fun _ _ => rfl)))
  (Evl.pss_cut (ps_if (pt_cmpR op_eq (pv 2) pe_int (nomark _))
  (pss_cons (ps_set (i := 9) sc__law_names.nd rfl (Or.inl rfl) (pe_op op_add pe_int (pe_op op_mod (pv 3) pe_int)))
  (pss_cons (ps_set (i := 10) sc__law_names.nd rfl (Or.inl rfl) (pe_op op_mod (pe_op op_fdiv (pv 3) pe_int) (pv 9)))
  (pss_one (ps_set (i := 8) sc__law_names.nd rfl (Or.inl rfl) (pe_op op_add_str (pe_op op_add_str (pe_op op_mulS pe_str (pv 10)) (pe_ix ix_str (pv 5) (pe_op op_add pe_int (pe_op op_mod (pe_op op_add (pv 3) (pe_op op_mul pe_int (pv 7))) pe_int)) (fun _ _ => rfl))) (pe_op op_mulS pe_str (pe_op op_sub (pe_op op_sub (pv 9) (pv 10)) pe_int)))))))
  pss_nil)
  (Evl.pss_cut (ps_if (pt_cmpR op_eq (pv 2) pe_int (nomark _))
  (pss_cons (ps_set (i := 8) sc__law_names.nd rfl (Or.inl rfl) (pe_ix ix_str (pv 5) (pe_op op_add pe_int (pe_call G__law_take (hr.mono (by omega)) (by rfl) T.g__law_take T.f__law_take.kp T.b__law_take .nil pass0 (pa_cons (pv 0) (pa_cons pe_int pa_nil)))) (fun _ _ => rfl)))
  (pss_cons (ps_for PassesOwn.never rfl (pi_range1 (by rfl) T.z_range (pa_cons (pe_call G__law_take (hr.mono (by omega)) (by rfl) T.g__law_take T.f__law_take.kp T.b__law_take .nil pass0 (pa_cons (pv 0) (pa_cons pe_int pa_nil))) pa_nil)) (pg_name (i := 11) sc__law_names.nd rfl (Or.inl rfl))
  (pss_one (ps_set (i := 8) sc__law_names.nd rfl (Or.inl rfl) (pe_op op_add_str (pv 8) (pe_ix ix_str (pv 5) (pe_call G__law_take (hr.mono (by omega)) (by rfl) T.g__law_take T.f__law_take.kp T.b__law_take .nil pass0 (pa_cons (pv 0) (pa_cons pe_int pa_nil))) (fun _ _ => rfl))))))
  (pss_one (ps_set (i := 8) sc__law_names.nd rfl (Or.inl rfl) (pe_op op_add_str (pv 8) (pe_ix ix_str (pv 5) (pe_op op_mod (pe_op op_add (pv 3) (pv 7)) pe_int) (fun _ _ => rfl)))))))
  pss_nil)
  (pss_cons (ps_if (pt_cmpR op_eq (pv 8) pe_str (nomark _))
  (pss_one (ps_set (i := 8) sc__law_names.nd rfl (Or.inl rfl) pe_str))
  pss_nil)
  (pss_one (ps_expr (pe_bm PySem.F.plainAttrs_list PySem.F.slot_list_append PySem.F.type_list_append mt_append (pv 6) (pa_cons (pv 8) pa_nil)))))))))
  (pss_one (ps_ret (pv 6)))))))))), ?_⟩
    walk_at "rd"
    refine ⟨p, 3, ⟨rfl, rfl⟩, hp, by decide, by decide, fun r1 H1 hr1 k1 => ⟨p, 168, ⟨rfl, rfl⟩, k1.pool hp, by decide, by decide, fun r2 H2 hr2 k2 => ?_⟩⟩
    refine ⟨by rw [sizeLine_eq]; decide, fun a ha => ⟨by rw [sizeLine_eq]; decide, fun b hb => ?_⟩⟩
    have npL : ∀ zs : List Str, ¬ IsPool (.lst (zs.map V.str)) := fun zs => np_strs
    refine ⟨_, Evl.Ex.new hb _ _ upd_same, _, upd_same, by rw [sizeLine_eq]; decide, fun st hst => ⟨Nat.zero_le _, fun nm hnm => ⟨by omega, by omega, ?_⟩⟩⟩
    have es : ls__law_names_0.map V.str ++ ls__law_names_1.map V.str = (ls__law_names_0 ++ ls__law_names_1).map V.str := List.map_append.symm
    rw [es] at hnm ⊢
    have k3 : Kp H _ := (k1.trans k2).trans ((Kp.new ha).trans ((Kp.new hb).trans (Kp.new (o := .lst ((ls__law_names_0 ++ ls__law_names_1).map V.str)) hst)))
    have hst3 : (upd (upd (upd H2 a (.lst (ls__law_names_0.map V.str))) b (.lst (ls__law_names_1.map V.str))) st (.lst ((ls__law_names_0 ++ ls__law_names_1).map V.str))) st = some (.lst ((ls__law_names_0 ++ ls__law_names_1).map V.str)) := upd_same
    have tst : Txs 10 (ls__law_names_0 ++ ls__law_names_1) := Txs.of (by decide +kernel)
    have nst : (ls__law_names_0 ++ ls__law_names_1).length = 24 := by decide
    generalize ls__law_names_0 ++ ls__law_names_1 = sts at *
    generalize upd (upd (upd H2 a (.lst (ls__law_names_0.map V.str))) b (.lst (ls__law_names_1.map V.str))) st (.lst (sts.map V.str)) = H3 at *
    clear es k1 k2 ha hb hst
    obtain ⟨sg, hsg⟩ : ∃ sg : Str, sg = Str.ofString "0123456789abcdefghijklmnopqrstuvwxyz" := ⟨_, rfl⟩
    have nsg : sg.cps.toList.length = 36 := by rw [hsg]; decide +kernel
    have nsg2 : sg.length ≤ sizeLine := szl (by rw [← len_cps, nsg]; decide)
    rw [← hsg]
    have sig : ∀ j : Int, 0 ≤ j → j < 36 → ∃ c, atI sg.cps.toList j = some c := fun j h1 h2 => ⟨sg.cps.toList[j.toNat]'(by rw [nsg]; omega), ati (j := j.toNat) (by omega) (List.getElem?_eq_getElem _)⟩
    obtain ⟨Pv, hPv⟩ := opq3 fun (i : Nat) (σ : L2.St) (H' : Hp) => ∃ zs x7 x8 x9 x10 x11, σ = [some (.ref p), some (.int c), some (.int r1), some (.int r2), some (.ref st), some (.str sg), some (.ref nm), x7, x8, x9, x10, x11] ∧ Kp H3 H' ∧ H' nm = some (.lst (zs.map V.str)) ∧ zs.length = i ∧ Txs 10 zs
    refine f_range Pv ((hPv _ _ _).mpr ⟨[], none, none, none, none, none, rfl, Kp.new hnm, upd_same, rfl, Txs.nil⟩) (fun i σ H' hi pv => ?_) (fun σ H' pv => ?_)
    · obtain ⟨zs, x7, x8, x9, x10, x11, rfl, k4, hn4, hl4, ht4⟩ := (hPv _ _ _).mp pv
      have hi : i < c := by omega
      have m1 := Int.emod_nonneg ((r2 : Int) + 7 * (0 + (i : Int))) (show (24 : Int) ≠ 0 by decide)
      have m2 := Int.emod_lt_of_pos ((r2 : Int) + 7 * (0 + (i : Int))) (show (0 : Int) < 24 by decide)
      walk_at "rd"
      obtain ⟨j1, hj1⟩ : ∃ j1 : Nat, ((r2 : Int) + 7 * (0 + (i : Int))) % 24 = (j1 : Int) := ⟨(((r2 : Int) + 7 * (0 + (i : Int))) % 24).toNat, by omega⟩
      rw [hj1] at m2 ⊢
      obtain ⟨nm1, hz1, ez1⟩ := pick (zs := sts) (r := j1) (by omega)
      refine ⟨.inl ⟨by decide, by decide⟩, by decide, _, k4.seq np_strs (SqL.of hst3), .str nm1, ez1, ?_⟩
      have hz1 := tst _ hz1
      obtain ⟨Mid, hMid⟩ := opq2 fun (σ' : L2.St) (G : Hp) => ∃ z x9 x10 x11, σ' = [some (.ref p), some (.int c), some (.int r1), some (.int r2), some (.ref st), some (.str sg), some (.ref nm), some (.int (0 + (i : Nat))), some (.str z), x9, x10, x11] ∧ z.length ≤ 10 ∧ Kp H' G
      refine ⟨Mid, ?_, fun σ' G hm => ?_⟩
      · walk_at "rd"
        refine ite2 (fun h => ?_) (fun h => (hMid _ _).mpr ⟨nm1, _, _, _, rfl, hz1, Kp.refl _⟩)
        have hk : (Str.ofString "k").length ≤ 1 := by decide +kernel
        obtain ⟨sz, hsz⟩ : ∃ sz : Nat, 2 + (r2 : Int) % 7 = (sz : Int) := ⟨(2 + (r2 : Int) % 7).toNat, by omega⟩
        have hsz1 : 2 ≤ sz ∧ sz ≤ 8 := by omega
        rw [hsz]
        have p1 := Int.emod_nonneg ((r2 : Int) / 7) (show (sz : Int) ≠ 0 by omega)
        have p2 := Int.emod_lt_of_pos ((r2 : Int) / 7) (show (0 : Int) < sz by omega)
        obtain ⟨pl, hpl⟩ : ∃ pl : Nat, (r2 : Int) / 7 % (sz : Int) = (pl : Int) := ⟨((r2 : Int) / 7 % (sz : Int)).toNat, by omega⟩
        rw [hpl] at p2 ⊢
        refine ⟨by decide, ⟨by decide, by decide⟩, by omega, _, _, rfl, rfl, PyProof.Rows.mulOk_of 1 8 hk (by omega) (by omega) (by decide) (by decide), .inl ⟨by decide, by decide⟩, by decide, nsg2, ?_⟩
        have q1 := Int.emod_nonneg ((r2 : Int) + 5 * (0 + (i : Int))) (show (24 : Int) ≠ 0 by decide)
        have q2 := Int.emod_lt_of_pos ((r2 : Int) + 5 * (0 + (i : Int))) (show (0 : Int) < 24 by decide)
        obtain ⟨cc, hcc⟩ := sig (10 + ((r2 : Int) + 5 * (0 + (i : Int))) % 24) (by omega) (by omega)
        have b1 := PyProof.Rows.len_mul_leN (x := Str.ofString "k") (n := (pl : Int)) (L := 1) (N := pl) hk (by omega)
        have b2 := PyProof.Rows.len_mul_leN (x := Str.ofString "k") (n := (sz : Int) - pl - 1) (L := 1) (N := sz - pl - 1) hk (by omega)
        have b3 : ({ cps := #[cc] } : Str).length = 1 := rfl
        refine ⟨cc, hcc, _, rfl, szl (by rw [b3]; omega), _, _, rfl, rfl, PyProof.Rows.mulOk_of 1 8 hk (by omega) (by omega) (by decide) (by decide), _, rfl, szl (by simp only [Str.length_append]; omega), (hMid _ _).mpr ⟨_, _, _, _, rfl, ?_, Kp.refl _⟩⟩
        simp only [Str.length_append]
        omega
      · obtain ⟨z, y9, y10, y11, rfl, hz2, k5⟩ := (hMid _ _).mp hm
        refine ⟨Mid, ?_, fun σ' G2 hm => ?_⟩
        · walk_at "rd"
          refine ite2 (fun h => ?_) (fun h => (hMid _ _).mpr ⟨z, _, _, _, rfl, hz2, k5⟩)
          have pG := (k3.trans (k4.trans k5)).pool hp
          refine ⟨p, 26, ⟨rfl, rfl⟩, pG, by decide, by decide, fun r5 G5 hr5 k6 => ⟨nsg2, ?_⟩⟩
          obtain ⟨cc, hcc⟩ := sig (10 + (r5 : Int)) (by omega) (by omega)
          refine ⟨cc, hcc, p, 6, ⟨rfl, rfl⟩, k6.pool pG, by decide, by decide, fun r6 G6 hr6 k7 => ⟨by omega, by omega, ?_⟩⟩
          have k7 := k5.trans (k6.trans k7)
          obtain ⟨Pw, hPw⟩ := opq3 fun (u : Nat) (σ : L2.St) (G' : Hp) => ∃ y z11, σ = [some (.ref p), some (.int c), some (.int r1), some (.int r2), some (.ref st), some (.str sg), some (.ref nm), some (.int (0 + (i : Nat))), some (.str y), y9, y10, z11] ∧ Kp H' G' ∧ y.length ≤ 1 + u
          refine f_range Pw ((hPw _ _ _).mpr ⟨_, _, rfl, k7, Nat.le_refl _⟩) (fun u σ G' hu pw => ?_) (fun σ G' pw => ?_)
          · obtain ⟨y, z11, rfl, k8, hy⟩ := (hPw _ _ _).mp pw
            have pG8 := (k3.trans (k4.trans k8)).pool hp
            walk_at "rd"
            refine ⟨p, 36, ⟨rfl, rfl⟩, pG8, by decide, by decide, fun r9 G9 hr9 k9 => ⟨nsg2, ?_⟩⟩
            obtain ⟨c2, hc2⟩ := sig (r9 : Int) (by omega) (by omega)
            have b3 : ({ cps := #[c2] } : Str).length = 1 := rfl
            refine ⟨c2, hc2, szl (by rw [b3]; omega), (hPw _ _ _).mpr ⟨_, _, rfl, k8.trans k9, ?_⟩⟩
            rw [Str.length_append, b3]
            omega
          · obtain ⟨y, z11, rfl, k8, hy⟩ := (hPw _ _ _).mp pw
            walk_at "rd"
            have q1 := Int.emod_nonneg ((r2 : Int) + (0 + (i : Int))) (show (36 : Int) ≠ 0 by decide)
            have q2 := Int.emod_lt_of_pos ((r2 : Int) + (0 + (i : Int))) (show (0 : Int) < 36 by decide)
            obtain ⟨c2, hc2⟩ := sig (((r2 : Int) + (0 + (i : Int))) % 36) (by omega) (by omega)
            have b3 : ({ cps := #[c2] } : Str).length = 1 := rfl
            refine ⟨by decide, nsg2, c2, hc2, szl (by rw [b3]; omega), (hMid _ _).mpr ⟨_, _, _, _, rfl, ?_, k8⟩⟩
            rw [Str.length_append, b3]
            omega
        · obtain ⟨z, y9, y10, y11, rfl, hz2, k5⟩ := (hMid _ _).mp hm
          walk_at "rd"
          have gnm : G2 nm = some (.lst (zs.map V.str)) := k5.get hn4 np_strs
          have fin : ∀ y : Str, y.length ≤ 10 → tyV K "list" (V.ref nm) G2 ∧ ∃ x, G2 nm = some (HO.lst x) ∧ x.length < sizeLine ∧ Pv (i + 1) [some (V.ref p), some (V.int c), some (V.int r1), some (V.int r2), some (V.ref st), some (V.str sg), some (V.ref nm), some (V.int (0 + (i : Int))), some (V.str y), y9, y10, y11] (upd G2 nm (HO.lst (x ++ [V.str y]))) := fun y hy => by
            refine ⟨.inl ⟨rfl, _, SqL.of gnm⟩, _, gnm, ?_, (hPv _ _ _).mpr ⟨zs ++ [y], _, _, _, _, _, rfl, Kp.mut (k4.trans k5) hnm, ?_, ?_, ht4.app (.cons hy .nil)⟩⟩
            · rw [List.length_map, sizeLine_eq]
              omega
            · rw [List.map_append]
              exact upd_same
            · rw [List.length_append, hl4]
              rfl
          exact ite2 (fun h => fin _ (by decide +kernel)) (fun h => fin _ hz2)
    · obtain ⟨zs, x7, x8, x9, x10, x11, rfl, k4, hn4, hl4, ht4⟩ := (hPv _ _ _).mp pv
      walk_at "rd"
      exact q _ nm zs (k3.trans k4) (k3.free hnm) hn4 (by omega) ht4
end
end K89

namespace K89
open PySem PySem.Spec PyProof.Rows L2 Lv
local macro_rules | `(tactic| walk_at "rd") => `(tactic| simp only [spTake, spLine, spDeed, r_seq, r_next, r_break, r_cont, r_asg, r_name, r_drop, r_ret, r_retN, r_if, r_var, r_c, r_op, r_un, r_test, r_B, r_and, r_or, r_not, r_andV, r_orV, r_notV, r_ifE, r_nil, r_cons, r_tup, r_lst, r_call, r_CB, r_BM, r_BM0, r_M1, r_M0, r_Sl, r_part, r_nopart, r_chain, r_I0, r_I, r_eq, r_ne, r_U, r_ixL, r_ixT, r_ixS, r_slL, r_slS, r_append, r_pop, r_sub, r_setL, r_cat, r_rep, r_in, r_strs, r_match, r_lc, r_for, r_iStr, r_iList, r_iTup, r_iRng1, r_iRng2, r_iEnumK, sign_inj, r_all, r_tStrs, r_gTup, r_gCons, r_gNil, wipe, cx_K, cx_N, cx_sc, r_stNil, st_start, List.set_cons_zero, List.set_cons_succ, List.getElem?_cons_zero, List.getElem?_cons_succ, Option.some.injEq, V.int.injEq, V.str.injEq, V.bl.injEq, V.ref.injEq, exists_eq_left', exists_eq_left, exists_eq', exists_and_left, true_and, and_true, exists_eq, exists_const, List.cons_append, List.nil_append, List.append_nil, List.cons.injEq, List.map_cons, List.map_nil, List.length_cons, List.length_nil, Nat.reduceAdd, Nat.reduceSub, List.replicate_succ, List.replicate_zero, Bool.not_eq_true', Bool.not_true, Bool.not_false, Bool.false_eq_true, if_true, if_false, ite_true, ite_false, decide_eq_true_eq, sc_ss, sc_ii, sc_bb, reduceCtorEq])
local macro_rules | `(tactic| walk_at "v") => `(tactic| refine ⟨_, rfl, ?_⟩)
local macro_rules | `(tactic| walk_at "sz") => `(tactic| first | exact Nat.le_trans (by assumption) (by decide) | exact Nat.zero_le _ | (rw [sizeLine_eq]; simp <;> omega) | omega)



/-- a new list of at most n lines -/
def spLines2 (K : PySem.W.Frag) (n : Nat) : Sp := fun vs H Q _ => ∃ (p a : Addr) (zs : List Str), vs = [.ref p, .ref a] ∧ PoolAt H p ∧ SqL K H a (zs.map V.str) ∧ Txs 10 zs ∧ 1 ≤ zs.length ∧ zs.length ≤ 100 ∧
  ∀ a us H', H' a = some (.lst (us.map V.str)) → us.length ≤ n → Txs 4000 us → Kp H H' → Q (.ref a) H'
def spSpoil : Sp := fun vs H Q _ => ∃ (p a : Addr) (zs : List Str), vs = [.ref p, .ref a] ∧ PoolAt H p ∧ H a = some (.lst (zs.map V.str)) ∧ Txs 4010 zs ∧ zs.length ≤ 100 ∧
  ∀ a us H', H' a = some (.lst (us.map V.str)) → us.length ≤ zs.length + 12 → (∀ m, Txs m zs → 4000 ≤ m → Txs (m + 1) us) → Kp H H' → Q (.ref a) H'
section
variable {w : World} {K : PySem.W.Frag} {mg : Str → Option Value} {base : Heap}
theorem ok__law_drawn_lines (T : Txt K mg) : FnOk Pg w K mg base CX0 4 T.a__law_drawn_lines T.d__law_drawn_lines ["pool", "names"] (spLines2 K 30) := by
  have G__law_take := ok__law_take (w := w) (base := base) T
  have G__law_deed_line := ok__law_deed_line (w := w) (base := base) T
  have G__law_plain_line := ok__law_plain_line (w := w) (base := base) T
  have G__law_opening_line := ok__law_opening_line (w := w) (base := base) T
  refine T.f__law_drawn_lines.ok sc__law_drawn_lines (fun vs H Q E h => ?_) (fun cdv A outer s H vs Q E hr h => ?_)
  · obtain ⟨p, a, zs, rfl, _⟩ := h
    rfl
  · obtain ⟨p, a, zs, rfl, hp, hS, hz, hz1, hz2, q⟩ := h
    refine ⟨_, (pss_cons (ps_set (i := 2) sc__law_drawn_lines.nd rfl (Or.inl rfl) (pe_lst pa_nil))
  (pss_cons (ps_set (i := 3) sc__law_drawn_lines.nd rfl (Or.inl rfl) (pe_lst pa_nil))
  (pss_cons (ps_for PassesOwn.never rfl (pi_range1 (by rfl) T.z_range (pa_cons (pe_call G__law_take (hr.mono (by omega)) (by rfl) T.g__law_take T.f__law_take.kp T.b__law_take .nil pass0 (pa_cons (pv 0) (pa_cons pe_int pa_nil))) pa_nil)) (pg_name (i := 4) sc__law_drawn_lines.nd rfl (Or.inl rfl))
  (pss_cons (ps_set (i := 5) sc__law_drawn_lines.nd rfl (Or.inl rfl) (pe_call G__law_take (hr.mono (by omega)) (by rfl) T.g__law_take T.f__law_take.kp T.b__law_take .nil pass0 (pa_cons (pv 0) (pa_cons pe_int pa_nil))))
  (Evl.pss_cut (ps_set (i := 6) sc__law_drawn_lines.nd rfl (Or.inl rfl) (pe_and (pe_cmpR op_gt (pe_callB call_len_seq (by rfl) T.z_len PySem.boot_len (pa_cons (pv 3) pa_nil)) pe_int (nomark _)) (pe_one (pe_cmpR op_eq (pe_ix (r := rIxL K) ix_list (pv 3) (pe_un un_neg pe_int) (fun _ _ => rfl)) pe_str (nomark _)))))
  (pss_one (ps_if (PW.pt (pw_or (pt_cmpR op_lt (pv 5) pe_int (nomark _)) (pw_or1 (PW.pt (pw_and (pt_val (pv 6)) (pw_and1 (pt_cmpR op_lt (pv 5) pe_int (nomark _))))))))
  (pss_one (ps_expr (pe_bm PySem.F.plainAttrs_list PySem.F.slot_list_append PySem.F.type_list_append mt_append (pv 2) (pa_cons (pe_call G__law_deed_line (hr.mono (by omega)) (by rfl) T.g__law_deed_line T.f__law_deed_line.kp T.b__law_deed_line .nil pass0 (pa_cons (pv 0) (pa_cons (pv 1) pa_nil))) pa_nil))))
  (pss_one (ps_if (PW.pt (pw_and (pt_cmpR op_gt (pe_callB call_len_seq (by rfl) T.z_len PySem.boot_len (pa_cons (pv 3) pa_nil)) pe_int (nomark _)) (pw_and1 (PW.pt (pw_or (pt_val (pv 6)) (pw_or1 (pt_cmpR op_eq (pv 5) pe_int (nomark _))))))))
  (pss_cons (ps_set (i := 3) sc__law_drawn_lines.nd rfl (Or.inl rfl) (pe_slice sl_list (pv 3) po_none (po_some (pe_un un_neg pe_int))))
  (pss_one (ps_expr (pe_bm PySem.F.plainAttrs_list PySem.F.slot_list_append PySem.F.type_list_append mt_append (pv 2) (pa_cons pe_str pa_nil)))))
  (pss_one (ps_if (PW.pt (pw_or (pt_cmpR op_eq (pv 5) pe_int (nomark _)) (pw_or (pt_cmpR op_ge (pe_callB call_len_seq (by rfl) T.z_len PySem.boot_len (pa_cons (pv 3) pa_nil)) pe_int (nomark _)) (pw_or1 (pt_cmpR op_eq (pv 5) pe_int (nomark _))))))
  (pss_one (ps_expr (pe_bm PySem.F.plainAttrs_list PySem.F.slot_list_append PySem.F.type_list_append mt_append (pv 2) (pa_cons (pe_call G__law_plain_line (hr.mono (by omega)) (by rfl) T.g__law_plain_line T.f__law_plain_line.kp T.b__law_plain_line .nil pass0 (pa_cons (pv 0) pa_nil)) pa_nil))))
  (pss_cons (ps_set (i := 7) sc__law_drawn_lines.nd rfl (Or.inl rfl) (pe_call G__law_opening_line (hr.mono (by omega)) (by rfl) T.g__law_opening_line T.f__law_opening_line.kp T.b__law_opening_line .nil pass0 (pa_cons (pv 0) pa_nil)))
  (pss_cons (ps_set (i := 3) sc__law_drawn_lines.nd rfl (Or.inl rfl) (pe_op op_cat (pv 3) (pe_lst (pa_cons (pv 7) pa_nil))))
  (pss_one (ps_expr (pe_bm PySem.F.plainAttrs_list PySem.F.slot_list_append PySem.F.type_list_append mt_append (pv 2) (pa_cons (pv 7) pa_nil)))))))))))))))
  (pss_one (ps_ret (pe_op op_cat (pv 2) (pe_op op_rep (pe_lst (pa_cons pe_str pa_nil)) (pe_callB call_len_seq (by rfl) T.z_len PySem.boot_len (pa_cons (pv 3) pa_nil))))))))), ?_⟩
    walk_at "rd"
    refine ⟨Nat.zero_le _, fun L hL => ⟨Nat.zero_le _, fun O hO => ⟨p, 21, ⟨rfl, rfl⟩, ((Kp.new hL).nw hO).pool hp, by decide, by decide, fun r H1 hr1 k1 => ⟨by omega, by omega, ?_⟩⟩⟩⟩
    have k0 : Kp H H1 := ((Kp.new hL).nw hO).trans k1
    have nLO : O ≠ L := fun z => by rw [z, upd_same] at hO; cases hO
    have gL : H1 L = some (.lst (([] : List Str).map V.str)) := k1.get (by rw [upd_ne nLO.symm]; exact upd_same) np_strs
    have gO : H1 O = some (.lst (([] : List Str).map V.str)) := k1.get upd_same np_strs
    obtain ⟨Pv, hPv⟩ := opq3 fun (i : Nat) (σ : L2.St) (H' : Hp) => ∃ (O : Addr) (us os : List Str) (x4 x5 x6 x7 : Option V), σ = [some (.ref p), some (.ref a), some (.ref L), some (.ref O), x4, x5, x6, x7] ∧ Kp H H' ∧ O ≠ L ∧ H' L = some (.lst (us.map V.str)) ∧ H' O = some (.lst (os.map V.str)) ∧ us.length ≤ i ∧ os.length ≤ 4 ∧ Txs 4000 us
    refine f_range Pv ((hPv _ _ _).mpr ⟨O, [], [], none, none, none, none, rfl, k0, nLO, gL, gO, Nat.le_refl _, by decide, Txs.nil⟩) (fun i σ H' hi pv => ?_) (fun σ H' pv => ?_)
    · obtain ⟨O, us, os, x4, x5, x6, x7, rfl, k2, n1, hL2, hO2, hl2, ho2, ht2⟩ := (hPv _ _ _).mp pv
      walk_at "rd"
      refine ⟨p, 8, ⟨rfl, rfl⟩, k2.pool hp, by decide, by decide, fun r3 H3 hr3 k3 => ?_⟩
      have hL3 := k3.get hL2 np_strs
      have hO3 := k3.get hO2 np_strs
      have k3 := k2.trans k3
      obtain ⟨Mid, hMid⟩ := opq2 fun (σ' : L2.St) (G : Hp) => ∃ b, σ' = [some (.ref p), some (.ref a), some (.ref L), some (.ref O), some (.int (0 + (i : Nat))), some (.int (r3 : Nat)), some (.bl b), x7] ∧ G = H3 ∧ (b = true → 1 ≤ os.length)
      refine ⟨Mid, ?_, fun σ' G hm => ?_⟩
      · walk_at "rd"
        refine ⟨_, .inl (SqL.of hO3), ite2 (fun h => ?_) (fun h => (hMid _ _).mpr ⟨false, rfl, rfl, fun z => by cases z⟩)⟩
        rw [List.length_map] at h
        obtain ⟨z, hz⟩ : ∃ z, os[os.length - 1]? = some z := ⟨_, List.getElem?_eq_getElem (by omega)⟩
        exact ⟨_, SqL.of hO3, .str z, ati_last (by rw [List.length_map, List.getElem?_map, hz]; rfl), rfl, (hMid _ _).mpr ⟨_, rfl, rfl, fun _ => by omega⟩⟩
      · obtain ⟨b, rfl, rfl, hb⟩ := (hMid _ _).mp hm
        have app : ∀ (z : Str) (G2 : Hp) (O2 : Addr) (os2 : List Str) (x7 : Option V), Kp H G2 → O2 ≠ L → G2 L = some (.lst (us.map V.str)) → G2 O2 = some (.lst (os2.map V.str)) → os2.length ≤ 4 → z.length ≤ 4000 → (us.map V.str).length < sizeLine ∧ Pv (i + 1) [some (.ref p), some (.ref a), some (.ref L), some (.ref O2), some (.int (0 + (i : Nat))), some (.int (r3 : Nat)), some (.bl b), x7] (upd G2 L (.lst (us.map V.str ++ [.str z]))) := fun z G2 O2 os2 x7 kk n2 g1 g2 h4 h5 => ⟨by
            rw [List.length_map, sizeLine_eq]
            omega, (hPv _ _ _).mpr ⟨O2, us ++ [z], os2, _, _, _, _, rfl, Kp.mut kk hL, n2, by rw [List.map_append]; exact upd_same, by rw [upd_ne n2]; exact g2, by rw [List.length_append]; exact Nat.succ_le_succ hl2, h4, ht2.app (.cons h5 .nil)⟩⟩
        clear hm hMid Mid
        walk_at "rd"
        have k3p := k3.pool hp
        have zS := k3.seq np_strs hS
        have tL : tyV K "list" (V.ref L) G := .inl ⟨rfl, _, SqL.of hL3⟩
        repeat' first
          | refine ite2 (fun _ => ?_) (fun _ => ?_)
          | exact ⟨tL, p, a, ⟨rfl, rfl⟩, k3p, zs, zS, hz, hz1, hz2, fun z H5 hz5 k5 => ⟨_, k5.get hL3 np_strs, app z H5 O os _ (k3.trans k5) n1 (k5.get hL3 np_strs) (k5.get hO3 np_strs) ho2 (by omega)⟩⟩
          | exact ⟨tL, k3p, fun z H5 hz5 k5 => ⟨_, k5.get hL3 np_strs, app z H5 O os _ (k3.trans k5) n1 (k5.get hL3 np_strs) (k5.get hO3 np_strs) ho2 (by omega)⟩⟩
          | exact ⟨_, SqL.of hO3, fun y hy => ⟨.inl ⟨rfl, _, SqL.of (Evl.Ex.new hy _ _ hL3)⟩, _, Evl.Ex.new hy _ _ hL3, app _ _ y os.dropLast _ (k3.nw hy) (fun z => by rw [z, hL3] at hy; cases hy) (Evl.Ex.new hy _ _ hL3) (by rw [cutV_init, ← List.map_dropLast]; exact upd_same) (by rw [List.length_dropLast]; omega) (by decide +kernel)⟩⟩
          | refine ⟨_, .inl (SqL.of hO3), ?_⟩
          | (refine ⟨k3p, fun z H5 hz5 k5 => ⟨by rw [sizeLine_eq]; decide, fun y hy => ⟨_, Evl.Ex.new hy _ _ (k5.get hO3 np_strs), _, upd_same, by rw [List.length_map, sizeLine_eq, List.length_singleton]; omega, fun x hx => ?_⟩⟩⟩
             have gL5 := Evl.Ex.new (o := .lst (os.map V.str ++ [.str z])) hx _ _ (Evl.Ex.new (o := .lst [.str z]) hy _ _ (k5.get hL3 np_strs))
             refine ⟨.inl ⟨rfl, _, SqL.of gL5⟩, _, gL5, app z _ x (os ++ [z]) _ (((k3.trans k5).nw hy).nw hx) (fun e => by rw [e, Evl.Ex.new hy _ _ (k5.get hL3 np_strs)] at hx; cases hx) gL5 (by rw [List.map_append]; exact upd_same) ?_ (by omega)⟩
             rw [List.length_append]
             have hh : ¬ 4 ≤ (((os.map V.str).length : Nat) : Int) := by assumption
             rw [List.length_map] at hh
             show os.length + 1 ≤ 4
             omega)
    · obtain ⟨O, us, os, x4, x5, x6, x7, rfl, k2, n1, hL2, hO2, hl2, ho2, ht2⟩ := (hPv _ _ _).mp pv
      walk_at "rd"
      have ne : ∀ n : Nat, (List.replicate n [V.str (Str.ofString "end")]).flatten = (List.replicate n (Str.ofString "end")).map V.str := fun n => by
        induction n with
        | zero => rfl
        | succ n ih =>
          rw [List.replicate_succ, List.flatten_cons, ih]
          rfl
      refine ⟨by rw [sizeLine_eq]; decide, fun b hb => ⟨_, .inl (SqL.of (Evl.Ex.new hb _ _ hO2)), _, upd_same, by omega, by rw [List.length_map]; omega, ?_, fun c hc => ?_⟩⟩
      · rw [List.length_map, sizeLine_eq, List.length_singleton]
        omega
      · rw [ne, List.length_map] at *
        refine ⟨_, Evl.Ex.new hc _ _ (Evl.Ex.new hb _ _ hL2), _, upd_same, ?_, fun d hd => ?_⟩
        · rw [List.length_map, List.length_map, List.length_replicate, sizeLine_eq]
          omega
        · rw [← List.map_append]
          refine q d (us ++ List.replicate os.length (Str.ofString "end")) _ upd_same ?_ (ht2.app fun z hz => ?_) (((k2.nw hb).nw hc).nw hd)
          · rw [List.length_append, List.length_replicate]
            omega
          · rw [(List.mem_replicate.mp hz).2]
            decide +kernel
end
end K89

namespace K89
open PySem PySem.Spec PyProof.Rows L2 Lv
local macro_rules | `(tactic| walk_at "rd") => `(tactic| simp only [spTake, spLine, spDeed, r_seq, r_next, r_break, r_cont, r_asg, r_name, r_drop, r_ret, r_retN, r_if, r_var, r_c, r_op, r_un, r_test, r_B, r_and, r_or, r_not, r_andV, r_orV, r_notV, r_ifE, r_nil, r_cons, r_tup, r_lst, r_call, r_CB, r_BM, r_BM0, r_M1, r_M0, r_Sl, r_part, r_nopart, r_chain, r_I0, r_I, r_eq, r_ne, r_U, r_ixL, r_ixT, r_ixS, r_slL, r_slS, r_append, r_pop, r_sub, r_setL, r_cat, r_rep, r_in, r_strs, r_match, r_lc, r_for, r_iStr, r_iList, r_iTup, r_iRng1, r_iRng2, r_iEnumK, sign_inj, r_all, r_tStrs, r_gTup, r_gCons, r_gNil, wipe, cx_K, cx_N, cx_sc, r_stNil, st_start, List.set_cons_zero, List.set_cons_succ, List.getElem?_cons_zero, List.getElem?_cons_succ, Option.some.injEq, V.int.injEq, V.str.injEq, V.bl.injEq, V.ref.injEq, exists_eq_left', exists_eq_left, exists_eq', exists_and_left, true_and, and_true, exists_eq, exists_const, List.cons_append, List.nil_append, List.append_nil, List.cons.injEq, List.map_cons, List.map_nil, List.length_cons, List.length_nil, Nat.reduceAdd, Nat.reduceSub, List.replicate_succ, List.replicate_zero, Bool.not_eq_true', Bool.not_true, Bool.not_false, Bool.false_eq_true, if_true, if_false, ite_true, ite_false, decide_eq_true_eq, sc_ss, sc_ii, sc_bb, reduceCtorEq])
local macro_rules | `(tactic| walk_at "v") => `(tactic| refine ⟨_, rfl, ?_⟩)
local macro_rules | `(tactic| walk_at "sz") => `(tactic| first | exact Nat.le_trans (by assumption) (by decide) | exact Nat.zero_le _ | (rw [sizeLine_eq]; simp <;> omega) | omega)


theorem Txs.take {n k : Nat} {xs : List Str} (h : Txs n xs) : Txs n (xs.take k) := fun x hx => h x (List.mem_of_mem_take hx)
theorem Txs.drop {n k : Nat} {xs : List Str} (h : Txs n xs) : Txs n (xs.drop k) := fun x hx => h x (List.mem_of_mem_drop hx)
theorem rep_str (n : Nat) (z : Str) : (List.replicate n [V.str z]).flatten = (List.replicate n z).map V.str := by
  induction n with
  | zero => rfl
  | succ n ih =>
    rw [List.replicate_succ, List.flatten_cons, ih]
    rfl
theorem Txs.rep {n k : Nat} {z : Str} (h : z.length ≤ n) : Txs n (List.replicate k z) := fun x hx => (List.mem_replicate.mp hx).2 ▸ h
theorem sand0 {m j k : Nat} {zs : List Str} (h : Txs m zs) : Txs (m + 1) (zs.take k ++ zs.drop j) := (h.take.app h.drop).up (Nat.le_succ m)
theorem sandL {m j k : Nat} {zs l : List Str} (h : Txs m zs) (hx : Txs (m + 1) l) : Txs (m + 1) ((zs.take k ++ l) ++ zs.drop j) := ((h.take.up (Nat.le_succ m)).app hx).app (h.drop.up (Nat.le_succ m))
theorem sand {m j k : Nat} {zs : List Str} {x : Str} (h : Txs m zs) (hx : x.length ≤ m + 1) : Txs (m + 1) ((zs.take k ++ [x]) ++ zs.drop j) := sandL h (.cons hx .nil)
section
variable {w : World} {K : PySem.W.Frag} {mg : Str → Option Value} {base : Heap}
theorem ok__law_spoilt (T : Txt K mg) : FnOk Pg w K mg base CX0 4 T.a__law_spoilt T.d__law_spoilt ["pool", "lines"] spSpoil := by
  have G__law_take := ok__law_take (w := w) (base := base) T
  have G__law_odd_line := ok__law_odd_line (w := w) (base := base) T
  have G__law_plain_line := ok__law_plain_line (w := w) (base := base) T
  have G__law_opening_line := ok__law_opening_line (w := w) (base := base) T
  refine T.f__law_spoilt.ok sc__law_spoilt (fun vs H Q E h => ?_) (fun cdv A outer s H vs Q E hr h => ?_)
  · obtain ⟨p, a, zs, rfl, _⟩ := h
    rfl
  · obtain ⟨p, a, zs, rfl, hp, hS, hz, hz1, q⟩ := h
    refine ⟨_, (pss_cons (ps_set (i := 2) sc__law_spoilt.nd rfl (Or.inl rfl) (pe_call G__law_take (hr.mono (by omega)) (by rfl) T.g__law_take T.f__law_take.kp T.b__law_take .nil pass0 (pa_cons (pv 0) (pa_cons pe_int pa_nil))))
  (pss_cons (ps_set (i := 3) sc__law_spoilt.nd rfl (Or.inl rfl) (pe_call G__law_take (hr.mono (by omega)) (by rfl) T.g__law_take T.f__law_take.kp T.b__law_take .nil pass0 (pa_cons (pv 0) (pa_cons (pe_op op_add (pe_callB call_len_seq (by rfl) T.z_len PySem.boot_len (pa_cons (pv 1) pa_nil)) pe_int) pa_nil))))
  (Evl.pss_cut (ps_if (pt_cmpR op_eq (pv 2) pe_int (nomark _))
  (pss_one (ps_ret (pe_op op_cat (pe_op op_cat (pe_slice sl_list (pv 1) po_none (po_some (pv 3))) (pe_lst (pa_cons pe_str pa_nil))) (pe_slice sl_list (pv 1) (po_some (pv 3)) po_none))))
  pss_nil)
  (Evl.pss_cut (ps_if (pt_cmpR op_eq (pv 2) pe_int (nomark _))
  (pss_one (ps_ret (pe_op op_cat (pe_slice sl_list (pv 1) po_none (po_some (pv 3))) (pe_slice sl_list (pv 1) (po_some (pe_op op_add (pv 3) pe_int)) po_none))))
  pss_nil)
  (Evl.pss_cut (ps_if (pt_cmpR op_eq (pv 2) pe_int (nomark _))
  (pss_one (ps_ret (pe_op op_cat (pe_op op_cat (pe_slice sl_list (pv 1) po_none (po_some (pv 3))) (pe_lst (pa_cons (pe_call G__law_opening_line (hr.mono (by omega)) (by rfl) T.g__law_opening_line T.f__law_opening_line.kp T.b__law_opening_line .nil pass0 (pa_cons (pv 0) pa_nil)) pa_nil))) (pe_slice sl_list (pv 1) (po_some (pv 3)) po_none))))
  pss_nil)
  (Evl.pss_cut (ps_if (pt_cmpR op_eq (pv 2) pe_int (nomark _))
  (pss_cons (ps_set (i := 4) sc__law_spoilt.nd rfl (Or.inl rfl) (pe_op op_add pe_int (pe_call G__law_take (hr.mono (by omega)) (by rfl) T.g__law_take T.f__law_take.kp T.b__law_take .nil pass0 (pa_cons (pv 0) (pa_cons pe_int pa_nil)))))
  (pss_one (ps_ret (pe_op op_cat (pe_op op_cat (pe_op op_cat (pe_slice sl_list (pv 1) po_none (po_some (pv 3))) (pe_op op_rep (pe_lst (pa_cons pe_str pa_nil)) (pv 4))) (pe_op op_rep (pe_lst (pa_cons pe_str pa_nil)) (pv 4))) (pe_slice sl_list (pv 1) (po_some (pv 3)) po_none)))))
  pss_nil)
  (Evl.pss_cut (ps_if (pt_cmpR op_eq (pv 2) pe_int (nomark _))
  (pss_one (ps_ret (pe_op op_cat (pe_op op_cat (pe_slice sl_list (pv 1) po_none (po_some (pv 3))) (pe_lst (pa_cons (pe_call G__law_plain_line (hr.mono (by omega)) (by rfl) T.g__law_plain_line T.f__law_plain_line.kp T.b__law_plain_line .nil pass0 (pa_cons (pv 0) pa_nil)) pa_nil))) (pe_slice sl_list (pv 1) (po_some (pv 3)) po_none))))
  pss_nil)
  (Evl.pss_cut (ps_if (PW.pt (pw_or (pt_cmpR op_lt (pv 2) pe_int (nomark _)) (pw_or1 (pt_cmpR op_eq (pv 3) (pe_callB call_len_seq (by rfl) T.z_len PySem.boot_len (pa_cons (pv 1) pa_nil)) (nomark _)))))
  (pss_one (ps_ret (pe_op op_cat (pe_op op_cat (pe_slice sl_list (pv 1) po_none (po_some (pv 3))) (pe_lst (pa_cons (pe_call G__law_odd_line (hr.mono (by omega)) (by rfl) T.g__law_odd_line T.f__law_odd_line.kp T.b__law_odd_line .nil pass0 (pa_cons (pv 0) pa_nil)) pa_nil))) (pe_slice sl_list (pv 1) (po_some (pv 3)) po_none))))
  pss_nil)
  (pss_one (ps_ret (pe_op op_cat (pe_op op_cat (pe_slice sl_list (pv 1) po_none (po_some (pv 3))) (pe_lst (pa_cons (pe_ix (r := rIxL K) ix_list (pe_lst (pa_cons (pe_op op_add_str pe_str (pe_ix (r := rIxL K) ix_list (pv 1) (pv 3) (fun _ _ => rfl))) (pa_cons (pe_op op_add_str (pe_ix (r := rIxL K) ix_list (pv 1) (pv 3) (fun _ _ => rfl)) pe_str) pa_nil))) (pe_call G__law_take (hr.mono (by omega)) (by rfl) T.g__law_take T.f__law_take.kp T.b__law_take .nil pass0 (pa_cons (pv 0) (pa_cons pe_int pa_nil))) (fun _ _ => rfl)) pa_nil))) (pe_slice sl_list (pv 1) (po_some (pe_op op_add (pv 3) pe_int)) po_none)))))))))))), ?_⟩
    walk_at "rd"
    refine ⟨p, 8, ⟨rfl, rfl⟩, hp, by decide, by decide, fun way H1 hr1 k1 => ⟨_, .inl (SqL.of (k1.get hS np_strs)), p, zs.length + 1, ⟨rfl, by rw [List.length_map]; rfl⟩, k1.pool hp, by omega, by omega, fun at_ H2 hat k2 => ?_⟩⟩
    have k2 := k1.trans k2
    have hS2 := k2.get hS np_strs
    have hp2 := k2.pool hp
    have hL2 : SqL K H2 a (zs.map V.str) := SqL.of hS2
    obtain ⟨Mid, hMid⟩ := opq2 fun (σ' : L2.St) (G : Hp) => σ' = [some (.ref p), some (.ref a), some (.int (way : Nat)), some (.int (at_ : Nat)), none] ∧ H2 = G
    obtain ⟨Mid2, hMid2⟩ := opq2 fun (σ' : L2.St) (G : Hp) => σ' = [some (.ref p), some (.ref a), some (.int (way : Nat)), some (.int (at_ : Nat)), none] ∧ H2 = G ∧ at_ < zs.length
    have goM : Mid [some (.ref p), some (.ref a), some (.int (way : Nat)), some (.int (at_ : Nat)), none] H2 := (hMid _ _).mpr ⟨rfl, rfl⟩
    have c1 : cutV (zs.map V.str) none (some (at_ : Int)) = (zs.take at_).map V.str := by rw [cutV_take, List.map_take]
    have c2 : cutV (zs.map V.str) (some (at_ : Int)) none = (zs.drop at_).map V.str := by rw [cutV_drop, List.map_drop]
    have c3 : cutV (zs.map V.str) (some ((at_ : Int) + 1)) none = (zs.drop (at_ + 1)).map V.str := by
      have e : (at_ : Int) + 1 = ((at_ + 1 : Nat) : Int) := rfl
      rw [e, cutV_drop, List.map_drop]
    refine ⟨Mid, ?_, fun σ' G hm => ?_⟩
    · walk_at "rd"
      refine ite2 (fun hway => ?_) (fun hway => goM)
      refine ⟨_, SqL.of hS2, fun b hb => ?_⟩
      rw [c1] at *
      have gb : upd H2 b (.lst ((zs.take at_).map V.str)) b = some (.lst ((zs.take at_).map V.str)) := upd_same
      have kb : Kp H (upd H2 b (.lst ((zs.take at_).map V.str))) := k2.nw hb
      have hS2b : upd H2 b (.lst ((zs.take at_).map V.str)) a = some (.lst (zs.map V.str)) := Evl.Ex.new hb _ _ hS2
      clear hS2 hb
      generalize upd H2 b (.lst ((zs.take at_).map V.str)) = H_b_1 at *
      refine ⟨szl (by decide), fun c hc => ?_⟩
      have gc : upd H_b_1 c (.lst [V.str (Str.ofString "end")]) c = some (.lst (([Str.ofString "end"] : List Str).map V.str)) := upd_same
      have kc : Kp H (upd H_b_1 c (.lst [V.str (Str.ofString "end")])) := kb.nw hc
      have hS2bc : upd H_b_1 c (.lst [V.str (Str.ofString "end")]) a = some (.lst (zs.map V.str)) := Evl.Ex.new hc _ _ hS2b
      have gbc : upd H_b_1 c (.lst [V.str (Str.ofString "end")]) b = some (.lst ((zs.take at_).map V.str)) := Evl.Ex.new hc _ _ gb
      clear hS2b gb hc
      generalize upd H_b_1 c (.lst [V.str (Str.ofString "end")]) = H_c_2 at *
      refine ⟨_, gbc, _, gc, szl (by simp only [List.length_map, List.length_append, List.length_take, List.length_drop, List.length_cons, List.length_nil, List.length_replicate]; omega), fun d hd => ?_⟩
      rw [← List.map_append]
      have gd : upd H_c_2 d (.lst (((zs.take at_) ++ ([Str.ofString "end"] : List Str)).map V.str)) d = some (.lst (((zs.take at_) ++ ([Str.ofString "end"] : List Str)).map V.str)) := upd_same
      have kd : Kp H (upd H_c_2 d (.lst (((zs.take at_) ++ ([Str.ofString "end"] : List Str)).map V.str))) := kc.nw hd
      have hS2bcd : upd H_c_2 d (.lst (((zs.take at_) ++ ([Str.ofString "end"] : List Str)).map V.str)) a = some (.lst (zs.map V.str)) := Evl.Ex.new hd _ _ hS2bc
      have gbcd : upd H_c_2 d (.lst (((zs.take at_) ++ ([Str.ofString "end"] : List Str)).map V.str)) b = some (.lst ((zs.take at_).map V.str)) := Evl.Ex.new hd _ _ gbc
      have gcd : upd H_c_2 d (.lst (((zs.take at_) ++ ([Str.ofString "end"] : List Str)).map V.str)) c = some (.lst (([Str.ofString "end"] : List Str).map V.str)) := Evl.Ex.new hd _ _ gc
      clear hS2bc gbc gc hd
      generalize upd H_c_2 d (.lst (((zs.take at_) ++ ([Str.ofString "end"] : List Str)).map V.str)) = H_d_3 at *
      refine ⟨_, SqL.of hS2bcd, fun y hy => ?_⟩
      rw [c2] at *
      have gy : upd H_d_3 y (.lst ((zs.drop at_).map V.str)) y = some (.lst ((zs.drop at_).map V.str)) := upd_same
      have ky : Kp H (upd H_d_3 y (.lst ((zs.drop at_).map V.str))) := kd.nw hy
      have hS2bcdy : upd H_d_3 y (.lst ((zs.drop at_).map V.str)) a = some (.lst (zs.map V.str)) := Evl.Ex.new hy _ _ hS2bcd
      have gbcdy : upd H_d_3 y (.lst ((zs.drop at_).map V.str)) b = some (.lst ((zs.take at_).map V.str)) := Evl.Ex.new hy _ _ gbcd
      have gcdy : upd H_d_3 y (.lst ((zs.drop at_).map V.str)) c = some (.lst (([Str.ofString "end"] : List Str).map V.str)) := Evl.Ex.new hy _ _ gcd
      have gdy : upd H_d_3 y (.lst ((zs.drop at_).map V.str)) d = some (.lst (((zs.take at_) ++ ([Str.ofString "end"] : List Str)).map V.str)) := Evl.Ex.new hy _ _ gd
      clear hS2bcd gbcd gcd gd hy
      generalize upd H_d_3 y (.lst ((zs.drop at_).map V.str)) = H_y_4 at *
      refine ⟨_, gdy, _, gy, szl (by simp only [List.length_map, List.length_append, List.length_take, List.length_drop, List.length_cons, List.length_nil, List.length_replicate]; omega), fun u hu => ?_⟩
      rw [← List.map_append]
      have gu : upd H_y_4 u (.lst ((((zs.take at_) ++ ([Str.ofString "end"] : List Str)) ++ (zs.drop at_)).map V.str)) u = some (.lst ((((zs.take at_) ++ ([Str.ofString "end"] : List Str)) ++ (zs.drop at_)).map V.str)) := upd_same
      have ku : Kp H (upd H_y_4 u (.lst ((((zs.take at_) ++ ([Str.ofString "end"] : List Str)) ++ (zs.drop at_)).map V.str))) := ky.nw hu
      have hS2bcdyu : upd H_y_4 u (.lst ((((zs.take at_) ++ ([Str.ofString "end"] : List Str)) ++ (zs.drop at_)).map V.str)) a = some (.lst (zs.map V.str)) := Evl.Ex.new hu _ _ hS2bcdy
      have gbcdyu : upd H_y_4 u (.lst ((((zs.take at_) ++ ([Str.ofString "end"] : List Str)) ++ (zs.drop at_)).map V.str)) b = some (.lst ((zs.take at_).map V.str)) := Evl.Ex.new hu _ _ gbcdy
      have gcdyu : upd H_y_4 u (.lst ((((zs.take at_) ++ ([Str.ofString "end"] : List Str)) ++ (zs.drop at_)).map V.str)) c = some (.lst (([Str.ofString "end"] : List Str).map V.str)) := Evl.Ex.new hu _ _ gcdy
      have gdyu : upd H_y_4 u (.lst ((((zs.take at_) ++ ([Str.ofString "end"] : List Str)) ++ (zs.drop at_)).map V.str)) d = some (.lst (((zs.take at_) ++ ([Str.ofString "end"] : List Str)).map V.str)) := Evl.Ex.new hu _ _ gdy
      have gyu : upd H_y_4 u (.lst ((((zs.take at_) ++ ([Str.ofString "end"] : List Str)) ++ (zs.drop at_)).map V.str)) y = some (.lst ((zs.drop at_).map V.str)) := Evl.Ex.new hu _ _ gy
      clear hS2bcdy gbcdy gcdy gdy gy hu
      generalize upd H_y_4 u (.lst ((((zs.take at_) ++ ([Str.ofString "end"] : List Str)) ++ (zs.drop at_)).map V.str)) = H_u_5 at *
      exact q u (((zs.take at_) ++ ([Str.ofString "end"] : List Str)) ++ (zs.drop at_)) _ gu (by simp only [List.length_append, List.length_take, List.length_drop, List.length_cons, List.length_nil, List.length_replicate]; omega) (fun m hm h4 => sand hm (Nat.le_trans (show (Str.ofString "end").length ≤ 4000 by decide +kernel) (by omega))) ku
    obtain ⟨rfl, rfl⟩ := (hMid _ _).mp hm
    refine ⟨Mid, ?_, fun σ' G hm => ?_⟩
    · walk_at "rd"
      refine ite2 (fun hway => ?_) (fun hway => goM)
      refine ⟨_, SqL.of hS2, fun b hb => ?_⟩
      rw [c1] at *
      have gb : upd H2 b (.lst ((zs.take at_).map V.str)) b = some (.lst ((zs.take at_).map V.str)) := upd_same
      have kb : Kp H (upd H2 b (.lst ((zs.take at_).map V.str))) := k2.nw hb
      have hS2b : upd H2 b (.lst ((zs.take at_).map V.str)) a = some (.lst (zs.map V.str)) := Evl.Ex.new hb _ _ hS2
      clear hS2 hb
      generalize upd H2 b (.lst ((zs.take at_).map V.str)) = H_b_1 at *
      refine ⟨_, SqL.of hS2b, fun y hy => ?_⟩
      rw [c3] at *
      have gy : upd H_b_1 y (.lst ((zs.drop (at_ + 1)).map V.str)) y = some (.lst ((zs.drop (at_ + 1)).map V.str)) := upd_same
      have ky : Kp H (upd H_b_1 y (.lst ((zs.drop (at_ + 1)).map V.str))) := kb.nw hy
      have hS2by : upd H_b_1 y (.lst ((zs.drop (at_ + 1)).map V.str)) a = some (.lst (zs.map V.str)) := Evl.Ex.new hy _ _ hS2b
      have gby : upd H_b_1 y (.lst ((zs.drop (at_ + 1)).map V.str)) b = some (.lst ((zs.take at_).map V.str)) := Evl.Ex.new hy _ _ gb
      clear hS2b gb hy
      generalize upd H_b_1 y (.lst ((zs.drop (at_ + 1)).map V.str)) = H_y_2 at *
      refine ⟨_, gby, _, gy, szl (by simp only [List.length_map, List.length_append, List.length_take, List.length_drop, List.length_cons, List.length_nil, List.length_replicate]; omega), fun u hu => ?_⟩
      rw [← List.map_append]
      have gu : upd H_y_2 u (.lst (((zs.take at_) ++ (zs.drop (at_ + 1))).map V.str)) u = some (.lst (((zs.take at_) ++ (zs.drop (at_ + 1))).map V.str)) := upd_same
      have ku : Kp H (upd H_y_2 u (.lst (((zs.take at_) ++ (zs.drop (at_ + 1))).map V.str))) := ky.nw hu
      have hS2byu : upd H_y_2 u (.lst (((zs.take at_) ++ (zs.drop (at_ + 1))).map V.str)) a = some (.lst (zs.map V.str)) := Evl.Ex.new hu _ _ hS2by
      have gbyu : upd H_y_2 u (.lst (((zs.take at_) ++ (zs.drop (at_ + 1))).map V.str)) b = some (.lst ((zs.take at_).map V.str)) := Evl.Ex.new hu _ _ gby
      have gyu : upd H_y_2 u (.lst (((zs.take at_) ++ (zs.drop (at_ + 1))).map V.str)) y = some (.lst ((zs.drop (at_ + 1)).map V.str)) := Evl.Ex.new hu _ _ gy
      clear hS2by gby gy hu
      generalize upd H_y_2 u (.lst (((zs.take at_) ++ (zs.drop (at_ + 1))).map V.str)) = H_u_3 at *
      exact q u ((zs.take at_) ++ (zs.drop (at_ + 1))) _ gu (by simp only [List.length_append, List.length_take, List.length_drop, List.length_cons, List.length_nil, List.length_replicate]; omega) (fun m hm h4 => sand0 hm) ku
    obtain ⟨rfl, rfl⟩ := (hMid _ _).mp hm
    refine ⟨Mid, ?_, fun σ' G hm => ?_⟩
    · walk_at "rd"
      refine ite2 (fun hway => ?_) (fun hway => goM)
      refine ⟨_, SqL.of hS2, fun b hb => ?_⟩
      rw [c1] at *
      have gb : upd H2 b (.lst ((zs.take at_).map V.str)) b = some (.lst ((zs.take at_).map V.str)) := upd_same
      have kb : Kp H (upd H2 b (.lst ((zs.take at_).map V.str))) := k2.nw hb
      have hS2b : upd H2 b (.lst ((zs.take at_).map V.str)) a = some (.lst (zs.map V.str)) := Evl.Ex.new hb _ _ hS2
      clear hS2 hb
      generalize upd H2 b (.lst ((zs.take at_).map V.str)) = H_b_1 at *
      refine ⟨kb.pool hp, fun x G3 hx k3 => ?_⟩
      have k3' := kb.trans k3
      have hS2b3 := k3.get hS2b np_strs
      have gb3 := k3.get gb np_strs
      refine ⟨szl (by decide), fun c hc => ?_⟩
      have gc : upd G3 c (.lst [V.str x]) c = some (.lst (([x] : List Str).map V.str)) := upd_same
      have kc : Kp H (upd G3 c (.lst [V.str x])) := k3'.nw hc
      have hS2b3c : upd G3 c (.lst [V.str x]) a = some (.lst (zs.map V.str)) := Evl.Ex.new hc _ _ hS2b3
      have gb3c : upd G3 c (.lst [V.str x]) b = some (.lst ((zs.take at_).map V.str)) := Evl.Ex.new hc _ _ gb3
      clear hS2b3 gb3 hc
      generalize upd G3 c (.lst [V.str x]) = H_c_2 at *
      refine ⟨_, gb3c, _, gc, szl (by simp only [List.length_map, List.length_append, List.length_take, List.length_drop, List.length_cons, List.length_nil, List.length_replicate]; omega), fun d hd => ?_⟩
      rw [← List.map_append]
      have gd : upd H_c_2 d (.lst (((zs.take at_) ++ ([x] : List Str)).map V.str)) d = some (.lst (((zs.take at_) ++ ([x] : List Str)).map V.str)) := upd_same
      have kd : Kp H (upd H_c_2 d (.lst (((zs.take at_) ++ ([x] : List Str)).map V.str))) := kc.nw hd
      have hS2b3cd : upd H_c_2 d (.lst (((zs.take at_) ++ ([x] : List Str)).map V.str)) a = some (.lst (zs.map V.str)) := Evl.Ex.new hd _ _ hS2b3c
      have gb3cd : upd H_c_2 d (.lst (((zs.take at_) ++ ([x] : List Str)).map V.str)) b = some (.lst ((zs.take at_).map V.str)) := Evl.Ex.new hd _ _ gb3c
      have gcd : upd H_c_2 d (.lst (((zs.take at_) ++ ([x] : List Str)).map V.str)) c = some (.lst (([x] : List Str).map V.str)) := Evl.Ex.new hd _ _ gc
      clear hS2b3c gb3c gc hd
      generalize upd H_c_2 d (.lst (((zs.take at_) ++ ([x] : List Str)).map V.str)) = H_d_3 at *
      refine ⟨_, SqL.of hS2b3cd, fun y hy => ?_⟩
      rw [c2] at *
      have gy : upd H_d_3 y (.lst ((zs.drop at_).map V.str)) y = some (.lst ((zs.drop at_).map V.str)) := upd_same
      have ky : Kp H (upd H_d_3 y (.lst ((zs.drop at_).map V.str))) := kd.nw hy
      have hS2b3cdy : upd H_d_3 y (.lst ((zs.drop at_).map V.str)) a = some (.lst (zs.map V.str)) := Evl.Ex.new hy _ _ hS2b3cd
      have gb3cdy : upd H_d_3 y (.lst ((zs.drop at_).map V.str)) b = some (.lst ((zs.take at_).map V.str)) := Evl.Ex.new hy _ _ gb3cd
      have gcdy : upd H_d_3 y (.lst ((zs.drop at_).map V.str)) c = some (.lst (([x] : List Str).map V.str)) := Evl.Ex.new hy _ _ gcd
      have gdy : upd H_d_3 y (.lst ((zs.drop at_).map V.str)) d = some (.lst (((zs.take at_) ++ ([x] : List Str)).map V.str)) := Evl.Ex.new hy _ _ gd
      clear hS2b3cd gb3cd gcd gd hy
      generalize upd H_d_3 y (.lst ((zs.drop at_).map V.str)) = H_y_4 at *
      refine ⟨_, gdy, _, gy, szl (by simp only [List.length_map, List.length_append, List.length_take, List.length_drop, List.length_cons, List.length_nil, List.length_replicate]; omega), fun u hu => ?_⟩
      rw [← List.map_append]
      have gu : upd H_y_4 u (.lst ((((zs.take at_) ++ ([x] : List Str)) ++ (zs.drop at_)).map V.str)) u = some (.lst ((((zs.take at_) ++ ([x] : List Str)) ++ (zs.drop at_)).map V.str)) := upd_same
      have ku : Kp H (upd H_y_4 u (.lst ((((zs.take at_) ++ ([x] : List Str)) ++ (zs.drop at_)).map V.str))) := ky.nw hu
      have hS2b3cdyu : upd H_y_4 u (.lst ((((zs.take at_) ++ ([x] : List Str)) ++ (zs.drop at_)).map V.str)) a = some (.lst (zs.map V.str)) := Evl.Ex.new hu _ _ hS2b3cdy
      have gb3cdyu : upd H_y_4 u (.lst ((((zs.take at_) ++ ([x] : List Str)) ++ (zs.drop at_)).map V.str)) b = some (.lst ((zs.take at_).map V.str)) := Evl.Ex.new hu _ _ gb3cdy
      have gcdyu : upd H_y_4 u (.lst ((((zs.take at_) ++ ([x] : List Str)) ++ (zs.drop at_)).map V.str)) c = some (.lst (([x] : List Str).map V.str)) := Evl.Ex.new hu _ _ gcdy
      have gdyu : upd H_y_4 u (.lst ((((zs.take at_) ++ ([x] : List Str)) ++ (zs.drop at_)).map V.str)) d = some (.lst (((zs.take at_) ++ ([x] : List Str)).map V.str)) := Evl.Ex.new hu _ _ gdy
      have gyu : upd H_y_4 u (.lst ((((zs.take at_) ++ ([x] : List Str)) ++ (zs.drop at_)).map V.str)) y = some (.lst ((zs.drop at_).map V.str)) := Evl.Ex.new hu _ _ gy
      clear hS2b3cdy gb3cdy gcdy gdy gy hu
      generalize upd H_y_4 u (.lst ((((zs.take at_) ++ ([x] : List Str)) ++ (zs.drop at_)).map V.str)) = H_u_5 at *
      exact q u (((zs.take at_) ++ ([x] : List Str)) ++ (zs.drop at_)) _ gu (by simp only [List.length_append, List.length_take, List.length_drop, List.length_cons, List.length_nil, List.length_replicate]; omega) (fun m hm h4 => sand hm (by omega)) ku
    obtain ⟨rfl, rfl⟩ := (hMid _ _).mp hm
    refine ⟨Mid, ?_, fun σ' G hm => ?_⟩
    · walk_at "rd"
      refine ite2 (fun hway => ?_) (fun hway => goM)
      refine ⟨p, 5, ⟨rfl, rfl⟩, k2.pool hp, by decide, by decide, fun r G1 hr kG1 => ?_⟩
      have kG1' := k2.trans kG1
      have hS2G1 := kG1.get hS2 np_strs
      refine ⟨_, SqL.of hS2G1, fun b hb => ?_⟩
      rw [c1] at *
      have gb : upd G1 b (.lst ((zs.take at_).map V.str)) b = some (.lst ((zs.take at_).map V.str)) := upd_same
      have kb : Kp H (upd G1 b (.lst ((zs.take at_).map V.str))) := kG1'.nw hb
      have hS2G1b : upd G1 b (.lst ((zs.take at_).map V.str)) a = some (.lst (zs.map V.str)) := Evl.Ex.new hb _ _ hS2G1
      clear hS2G1 hb
      generalize upd G1 b (.lst ((zs.take at_).map V.str)) = H_b_1 at *
      refine ⟨szl (by decide), fun c hc => ?_⟩
      have gc : upd H_b_1 c (.lst [V.str (Str.ofString "again 2")]) c = some (.lst (([Str.ofString "again 2"] : List Str).map V.str)) := upd_same
      have kc : Kp H (upd H_b_1 c (.lst [V.str (Str.ofString "again 2")])) := kb.nw hc
      have hS2G1bc : upd H_b_1 c (.lst [V.str (Str.ofString "again 2")]) a = some (.lst (zs.map V.str)) := Evl.Ex.new hc _ _ hS2G1b
      have gbc : upd H_b_1 c (.lst [V.str (Str.ofString "again 2")]) b = some (.lst ((zs.take at_).map V.str)) := Evl.Ex.new hc _ _ gb
      clear hS2G1b gb hc
      generalize upd H_b_1 c (.lst [V.str (Str.ofString "again 2")]) = H_c_2 at *
      refine ⟨_, gc, by omega, by omega, szl (by rw [List.length_map, List.length_singleton]; omega), fun d hd => ?_⟩
      rw [show (([Str.ofString "again 2"] : List Str).map V.str) = [V.str (Str.ofString "again 2")] from rfl, rep_str]
      have gd : upd H_c_2 d (.lst ((List.replicate (1 + (r : Int)).toNat (Str.ofString "again 2")).map V.str)) d = some (.lst ((List.replicate (1 + (r : Int)).toNat (Str.ofString "again 2")).map V.str)) := upd_same
      have kd : Kp H (upd H_c_2 d (.lst ((List.replicate (1 + (r : Int)).toNat (Str.ofString "again 2")).map V.str))) := kc.nw hd
      have hS2G1bcd : upd H_c_2 d (.lst ((List.replicate (1 + (r : Int)).toNat (Str.ofString "again 2")).map V.str)) a = some (.lst (zs.map V.str)) := Evl.Ex.new hd _ _ hS2G1bc
      have gbcd : upd H_c_2 d (.lst ((List.replicate (1 + (r : Int)).toNat (Str.ofString "again 2")).map V.str)) b = some (.lst ((zs.take at_).map V.str)) := Evl.Ex.new hd _ _ gbc
      have gcd : upd H_c_2 d (.lst ((List.replicate (1 + (r : Int)).toNat (Str.ofString "again 2")).map V.str)) c = some (.lst (([Str.ofString "again 2"] : List Str).map V.str)) := Evl.Ex.new hd _ _ gc
      clear hS2G1bc gbc gc hd
      generalize upd H_c_2 d (.lst ((List.replicate (1 + (r : Int)).toNat (Str.ofString "again 2")).map V.str)) = H_d_3 at *
      refine ⟨_, gbcd, _, gd, szl (by simp only [List.length_map, List.length_append, List.length_take, List.length_drop, List.length_cons, List.length_nil, List.length_replicate]; omega), fun u hu => ?_⟩
      rw [← List.map_append]
      have gu : upd H_d_3 u (.lst (((zs.take at_) ++ (List.replicate (1 + (r : Int)).toNat (Str.ofString "again 2"))).map V.str)) u = some (.lst (((zs.take at_) ++ (List.replicate (1 + (r : Int)).toNat (Str.ofString "again 2"))).map V.str)) := upd_same
      have ku : Kp H (upd H_d_3 u (.lst (((zs.take at_) ++ (List.replicate (1 + (r : Int)).toNat (Str.ofString "again 2"))).map V.str))) := kd.nw hu
      have hS2G1bcdu : upd H_d_3 u (.lst (((zs.take at_) ++ (List.replicate (1 + (r : Int)).toNat (Str.ofString "again 2"))).map V.str)) a = some (.lst (zs.map V.str)) := Evl.Ex.new hu _ _ hS2G1bcd
      have gbcdu : upd H_d_3 u (.lst (((zs.take at_) ++ (List.replicate (1 + (r : Int)).toNat (Str.ofString "again 2"))).map V.str)) b = some (.lst ((zs.take at_).map V.str)) := Evl.Ex.new hu _ _ gbcd
      have gcdu : upd H_d_3 u (.lst (((zs.take at_) ++ (List.replicate (1 + (r : Int)).toNat (Str.ofString "again 2"))).map V.str)) c = some (.lst (([Str.ofString "again 2"] : List Str).map V.str)) := Evl.Ex.new hu _ _ gcd
      have gdu : upd H_d_3 u (.lst (((zs.take at_) ++ (List.replicate (1 + (r : Int)).toNat (Str.ofString "again 2"))).map V.str)) d = some (.lst ((List.replicate (1 + (r : Int)).toNat (Str.ofString "again 2")).map V.str)) := Evl.Ex.new hu _ _ gd
      clear hS2G1bcd gbcd gcd gd hu
      generalize upd H_d_3 u (.lst (((zs.take at_) ++ (List.replicate (1 + (r : Int)).toNat (Str.ofString "again 2"))).map V.str)) = H_u_4 at *
      refine ⟨szl (by decide), fun c2_ hc2_ => ?_⟩
      have gc2_ : upd H_u_4 c2_ (.lst [V.str (Str.ofString "end")]) c2_ = some (.lst (([Str.ofString "end"] : List Str).map V.str)) := upd_same
      have kc2_ : Kp H (upd H_u_4 c2_ (.lst [V.str (Str.ofString "end")])) := ku.nw hc2_
      have hS2G1bcduc2_ : upd H_u_4 c2_ (.lst [V.str (Str.ofString "end")]) a = some (.lst (zs.map V.str)) := Evl.Ex.new hc2_ _ _ hS2G1bcdu
      have gbcduc2_ : upd H_u_4 c2_ (.lst [V.str (Str.ofString "end")]) b = some (.lst ((zs.take at_).map V.str)) := Evl.Ex.new hc2_ _ _ gbcdu
      have gcduc2_ : upd H_u_4 c2_ (.lst [V.str (Str.ofString "end")]) c = some (.lst (([Str.ofString "again 2"] : List Str).map V.str)) := Evl.Ex.new hc2_ _ _ gcdu
      have gduc2_ : upd H_u_4 c2_ (.lst [V.str (Str.ofString "end")]) d = some (.lst ((List.replicate (1 + (r : Int)).toNat (Str.ofString "again 2")).map V.str)) := Evl.Ex.new hc2_ _ _ gdu
      have guc2_ : upd H_u_4 c2_ (.lst [V.str (Str.ofString "end")]) u = some (.lst (((zs.take at_) ++ (List.replicate (1 + (r : Int)).toNat (Str.ofString "again 2"))).map V.str)) := Evl.Ex.new hc2_ _ _ gu
      clear hS2G1bcdu gbcdu gcdu gdu gu hc2_
      generalize upd H_u_4 c2_ (.lst [V.str (Str.ofString "end")]) = H_c2__5 at *
      refine ⟨_, gc2_, by omega, by omega, szl (by rw [List.length_map, List.length_singleton]; omega), fun d2_ hd2_ => ?_⟩
      rw [show (([Str.ofString "end"] : List Str).map V.str) = [V.str (Str.ofString "end")] from rfl, rep_str]
      have gd2_ : upd H_c2__5 d2_ (.lst ((List.replicate (1 + (r : Int)).toNat (Str.ofString "end")).map V.str)) d2_ = some (.lst ((List.replicate (1 + (r : Int)).toNat (Str.ofString "end")).map V.str)) := upd_same
      have kd2_ : Kp H (upd H_c2__5 d2_ (.lst ((List.replicate (1 + (r : Int)).toNat (Str.ofString "end")).map V.str))) := kc2_.nw hd2_
      have hS2G1bcduc2_d2_ : upd H_c2__5 d2_ (.lst ((List.replicate (1 + (r : Int)).toNat (Str.ofString "end")).map V.str)) a = some (.lst (zs.map V.str)) := Evl.Ex.new hd2_ _ _ hS2G1bcduc2_
      have gbcduc2_d2_ : upd H_c2__5 d2_ (.lst ((List.replicate (1 + (r : Int)).toNat (Str.ofString "end")).map V.str)) b = some (.lst ((zs.take at_).map V.str)) := Evl.Ex.new hd2_ _ _ gbcduc2_
      have gcduc2_d2_ : upd H_c2__5 d2_ (.lst ((List.replicate (1 + (r : Int)).toNat (Str.ofString "end")).map V.str)) c = some (.lst (([Str.ofString "again 2"] : List Str).map V.str)) := Evl.Ex.new hd2_ _ _ gcduc2_
      have gduc2_d2_ : upd H_c2__5 d2_ (.lst ((List.replicate (1 + (r : Int)).toNat (Str.ofString "end")).map V.str)) d = some (.lst ((List.replicate (1 + (r : Int)).toNat (Str.ofString "again 2")).map V.str)) := Evl.Ex.new hd2_ _ _ gduc2_
      have guc2_d2_ : upd H_c2__5 d2_ (.lst ((List.replicate (1 + (r : Int)).toNat (Str.ofString "end")).map V.str)) u = some (.lst (((zs.take at_) ++ (List.replicate (1 + (r : Int)).toNat (Str.ofString "again 2"))).map V.str)) := Evl.Ex.new hd2_ _ _ guc2_
      have gc2_d2_ : upd H_c2__5 d2_ (.lst ((List.replicate (1 + (r : Int)).toNat (Str.ofString "end")).map V.str)) c2_ = some (.lst (([Str.ofString "end"] : List Str).map V.str)) := Evl.Ex.new hd2_ _ _ gc2_
      clear hS2G1bcduc2_ gbcduc2_ gcduc2_ gduc2_ guc2_ gc2_ hd2_
      generalize upd H_c2__5 d2_ (.lst ((List.replicate (1 + (r : Int)).toNat (Str.ofString "end")).map V.str)) = H_d2__6 at *
      refine ⟨_, guc2_d2_, _, gd2_, szl (by simp only [List.length_map, List.length_append, List.length_take, List.length_drop, List.length_cons, List.length_nil, List.length_replicate]; omega), fun v hv => ?_⟩
      rw [← List.map_append]
      have gv : upd H_d2__6 v (.lst ((((zs.take at_) ++ (List.replicate (1 + (r : Int)).toNat (Str.ofString "again 2"))) ++ (List.replicate (1 + (r : Int)).toNat (Str.ofString "end"))).map V.str)) v = some (.lst ((((zs.take at_) ++ (List.replicate (1 + (r : Int)).toNat (Str.ofString "again 2"))) ++ (List.replicate (1 + (r : Int)).toNat (Str.ofString "end"))).map V.str)) := upd_same
      have kv : Kp H (upd H_d2__6 v (.lst ((((zs.take at_) ++ (List.replicate (1 + (r : Int)).toNat (Str.ofString "again 2"))) ++ (List.replicate (1 + (r : Int)).toNat (Str.ofString "end"))).map V.str))) := kd2_.nw hv
      have hS2G1bcduc2_d2_v : upd H_d2__6 v (.lst ((((zs.take at_) ++ (List.replicate (1 + (r : Int)).toNat (Str.ofString "again 2"))) ++ (List.replicate (1 + (r : Int)).toNat (Str.ofString "end"))).map V.str)) a = some (.lst (zs.map V.str)) := Evl.Ex.new hv _ _ hS2G1bcduc2_d2_
      have gbcduc2_d2_v : upd H_d2__6 v (.lst ((((zs.take at_) ++ (List.replicate (1 + (r : Int)).toNat (Str.ofString "again 2"))) ++ (List.replicate (1 + (r : Int)).toNat (Str.ofString "end"))).map V.str)) b = some (.lst ((zs.take at_).map V.str)) := Evl.Ex.new hv _ _ gbcduc2_d2_
      have gcduc2_d2_v : upd H_d2__6 v (.lst ((((zs.take at_) ++ (List.replicate (1 + (r : Int)).toNat (Str.ofString "again 2"))) ++ (List.replicate (1 + (r : Int)).toNat (Str.ofString "end"))).map V.str)) c = some (.lst (([Str.ofString "again 2"] : List Str).map V.str)) := Evl.Ex.new hv _ _ gcduc2_d2_
      have gduc2_d2_v : upd H_d2__6 v (.lst ((((zs.take at_) ++ (List.replicate (1 + (r : Int)).toNat (Str.ofString "again 2"))) ++ (List.replicate (1 + (r : Int)).toNat (Str.ofString "end"))).map V.str)) d = some (.lst ((List.replicate (1 + (r : Int)).toNat (Str.ofString "again 2")).map V.str)) := Evl.Ex.new hv _ _ gduc2_d2_
      have guc2_d2_v : upd H_d2__6 v (.lst ((((zs.take at_) ++ (List.replicate (1 + (r : Int)).toNat (Str.ofString "again 2"))) ++ (List.replicate (1 + (r : Int)).toNat (Str.ofString "end"))).map V.str)) u = some (.lst (((zs.take at_) ++ (List.replicate (1 + (r : Int)).toNat (Str.ofString "again 2"))).map V.str)) := Evl.Ex.new hv _ _ guc2_d2_
      have gc2_d2_v : upd H_d2__6 v (.lst ((((zs.take at_) ++ (List.replicate (1 + (r : Int)).toNat (Str.ofString "again 2"))) ++ (List.replicate (1 + (r : Int)).toNat (Str.ofString "end"))).map V.str)) c2_ = some (.lst (([Str.ofString "end"] : List Str).map V.str)) := Evl.Ex.new hv _ _ gc2_d2_
      have gd2_v : upd H_d2__6 v (.lst ((((zs.take at_) ++ (List.replicate (1 + (r : Int)).toNat (Str.ofString "again 2"))) ++ (List.replicate (1 + (r : Int)).toNat (Str.ofString "end"))).map V.str)) d2_ = some (.lst ((List.replicate (1 + (r : Int)).toNat (Str.ofString "end")).map V.str)) := Evl.Ex.new hv _ _ gd2_
      clear hS2G1bcduc2_d2_ gbcduc2_d2_ gcduc2_d2_ gduc2_d2_ guc2_d2_ gc2_d2_ gd2_ hv
      generalize upd H_d2__6 v (.lst ((((zs.take at_) ++ (List.replicate (1 + (r : Int)).toNat (Str.ofString "again 2"))) ++ (List.replicate (1 + (r : Int)).toNat (Str.ofString "end"))).map V.str)) = H_v_7 at *
      refine ⟨_, SqL.of hS2G1bcduc2_d2_v, fun y hy => ?_⟩
      rw [c2] at *
      have gy : upd H_v_7 y (.lst ((zs.drop at_).map V.str)) y = some (.lst ((zs.drop at_).map V.str)) := upd_same
      have ky : Kp H (upd H_v_7 y (.lst ((zs.drop at_).map V.str))) := kv.nw hy
      have hS2G1bcduc2_d2_vy : upd H_v_7 y (.lst ((zs.drop at_).map V.str)) a = some (.lst (zs.map V.str)) := Evl.Ex.new hy _ _ hS2G1bcduc2_d2_v
      have gbcduc2_d2_vy : upd H_v_7 y (.lst ((zs.drop at_).map V.str)) b = some (.lst ((zs.take at_).map V.str)) := Evl.Ex.new hy _ _ gbcduc2_d2_v
      have gcduc2_d2_vy : upd H_v_7 y (.lst ((zs.drop at_).map V.str)) c = some (.lst (([Str.ofString "again 2"] : List Str).map V.str)) := Evl.Ex.new hy _ _ gcduc2_d2_v
      have gduc2_d2_vy : upd H_v_7 y (.lst ((zs.drop at_).map V.str)) d = some (.lst ((List.replicate (1 + (r : Int)).toNat (Str.ofString "again 2")).map V.str)) := Evl.Ex.new hy _ _ gduc2_d2_v
      have guc2_d2_vy : upd H_v_7 y (.lst ((zs.drop at_).map V.str)) u = some (.lst (((zs.take at_) ++ (List.replicate (1 + (r : Int)).toNat (Str.ofString "again 2"))).map V.str)) := Evl.Ex.new hy _ _ guc2_d2_v
      have gc2_d2_vy : upd H_v_7 y (.lst ((zs.drop at_).map V.str)) c2_ = some (.lst (([Str.ofString "end"] : List Str).map V.str)) := Evl.Ex.new hy _ _ gc2_d2_v
      have gd2_vy : upd H_v_7 y (.lst ((zs.drop at_).map V.str)) d2_ = some (.lst ((List.replicate (1 + (r : Int)).toNat (Str.ofString "end")).map V.str)) := Evl.Ex.new hy _ _ gd2_v
      have gvy : upd H_v_7 y (.lst ((zs.drop at_).map V.str)) v = some (.lst ((((zs.take at_) ++ (List.replicate (1 + (r : Int)).toNat (Str.ofString "again 2"))) ++ (List.replicate (1 + (r : Int)).toNat (Str.ofString "end"))).map V.str)) := Evl.Ex.new hy _ _ gv
      clear hS2G1bcduc2_d2_v gbcduc2_d2_v gcduc2_d2_v gduc2_d2_v guc2_d2_v gc2_d2_v gd2_v gv hy
      generalize upd H_v_7 y (.lst ((zs.drop at_).map V.str)) = H_y_8 at *
      refine ⟨_, gvy, _, gy, szl (by simp only [List.length_map, List.length_append, List.length_take, List.length_drop, List.length_cons, List.length_nil, List.length_replicate]; omega), fun x hx => ?_⟩
      rw [← List.map_append]
      have gx : upd H_y_8 x (.lst (((((zs.take at_) ++ (List.replicate (1 + (r : Int)).toNat (Str.ofString "again 2"))) ++ (List.replicate (1 + (r : Int)).toNat (Str.ofString "end"))) ++ (zs.drop at_)).map V.str)) x = some (.lst (((((zs.take at_) ++ (List.replicate (1 + (r : Int)).toNat (Str.ofString "again 2"))) ++ (List.replicate (1 + (r : Int)).toNat (Str.ofString "end"))) ++ (zs.drop at_)).map V.str)) := upd_same
      have kx : Kp H (upd H_y_8 x (.lst (((((zs.take at_) ++ (List.replicate (1 + (r : Int)).toNat (Str.ofString "again 2"))) ++ (List.replicate (1 + (r : Int)).toNat (Str.ofString "end"))) ++ (zs.drop at_)).map V.str))) := ky.nw hx
      have hS2G1bcduc2_d2_vyx : upd H_y_8 x (.lst (((((zs.take at_) ++ (List.replicate (1 + (r : Int)).toNat (Str.ofString "again 2"))) ++ (List.replicate (1 + (r : Int)).toNat (Str.ofString "end"))) ++ (zs.drop at_)).map V.str)) a = some (.lst (zs.map V.str)) := Evl.Ex.new hx _ _ hS2G1bcduc2_d2_vy
      have gbcduc2_d2_vyx : upd H_y_8 x (.lst (((((zs.take at_) ++ (List.replicate (1 + (r : Int)).toNat (Str.ofString "again 2"))) ++ (List.replicate (1 + (r : Int)).toNat (Str.ofString "end"))) ++ (zs.drop at_)).map V.str)) b = some (.lst ((zs.take at_).map V.str)) := Evl.Ex.new hx _ _ gbcduc2_d2_vy
      have gcduc2_d2_vyx : upd H_y_8 x (.lst (((((zs.take at_) ++ (List.replicate (1 + (r : Int)).toNat (Str.ofString "again 2"))) ++ (List.replicate (1 + (r : Int)).toNat (Str.ofString "end"))) ++ (zs.drop at_)).map V.str)) c = some (.lst (([Str.ofString "again 2"] : List Str).map V.str)) := Evl.Ex.new hx _ _ gcduc2_d2_vy
      have gduc2_d2_vyx : upd H_y_8 x (.lst (((((zs.take at_) ++ (List.replicate (1 + (r : Int)).toNat (Str.ofString "again 2"))) ++ (List.replicate (1 + (r : Int)).toNat (Str.ofString "end"))) ++ (zs.drop at_)).map V.str)) d = some (.lst ((List.replicate (1 + (r : Int)).toNat (Str.ofString "again 2")).map V.str)) := Evl.Ex.new hx _ _ gduc2_d2_vy
      have guc2_d2_vyx : upd H_y_8 x (.lst (((((zs.take at_) ++ (List.replicate (1 + (r : Int)).toNat (Str.ofString "again 2"))) ++ (List.replicate (1 + (r : Int)).toNat (Str.ofString "end"))) ++ (zs.drop at_)).map V.str)) u = some (.lst (((zs.take at_) ++ (List.replicate (1 + (r : Int)).toNat (Str.ofString "again 2"))).map V.str)) := Evl.Ex.new hx _ _ guc2_d2_vy
      have gc2_d2_vyx : upd H_y_8 x (.lst (((((zs.take at_) ++ (List.replicate (1 + (r : Int)).toNat (Str.ofString "again 2"))) ++ (List.replicate (1 + (r : Int)).toNat (Str.ofString "end"))) ++ (zs.drop at_)).map V.str)) c2_ = some (.lst (([Str.ofString "end"] : List Str).map V.str)) := Evl.Ex.new hx _ _ gc2_d2_vy
      have gd2_vyx : upd H_y_8 x (.lst (((((zs.take at_) ++ (List.replicate (1 + (r : Int)).toNat (Str.ofString "again 2"))) ++ (List.replicate (1 + (r : Int)).toNat (Str.ofString "end"))) ++ (zs.drop at_)).map V.str)) d2_ = some (.lst ((List.replicate (1 + (r : Int)).toNat (Str.ofString "end")).map V.str)) := Evl.Ex.new hx _ _ gd2_vy
      have gvyx : upd H_y_8 x (.lst (((((zs.take at_) ++ (List.replicate (1 + (r : Int)).toNat (Str.ofString "again 2"))) ++ (List.replicate (1 + (r : Int)).toNat (Str.ofString "end"))) ++ (zs.drop at_)).map V.str)) v = some (.lst ((((zs.take at_) ++ (List.replicate (1 + (r : Int)).toNat (Str.ofString "again 2"))) ++ (List.replicate (1 + (r : Int)).toNat (Str.ofString "end"))).map V.str)) := Evl.Ex.new hx _ _ gvy
      have gyx : upd H_y_8 x (.lst (((((zs.take at_) ++ (List.replicate (1 + (r : Int)).toNat (Str.ofString "again 2"))) ++ (List.replicate (1 + (r : Int)).toNat (Str.ofString "end"))) ++ (zs.drop at_)).map V.str)) y = some (.lst ((zs.drop at_).map V.str)) := Evl.Ex.new hx _ _ gy
      clear hS2G1bcduc2_d2_vy gbcduc2_d2_vy gcduc2_d2_vy gduc2_d2_vy guc2_d2_vy gc2_d2_vy gd2_vy gvy gy hx
      generalize upd H_y_8 x (.lst (((((zs.take at_) ++ (List.replicate (1 + (r : Int)).toNat (Str.ofString "again 2"))) ++ (List.replicate (1 + (r : Int)).toNat (Str.ofString "end"))) ++ (zs.drop at_)).map V.str)) = H_x_9 at *
      exact q x ((((zs.take at_) ++ (List.replicate (1 + (r : Int)).toNat (Str.ofString "again 2"))) ++ (List.replicate (1 + (r : Int)).toNat (Str.ofString "end"))) ++ (zs.drop at_)) _ gx (by simp only [List.length_append, List.length_take, List.length_drop, List.length_cons, List.length_nil, List.length_replicate]; omega) (fun m hm h4 => by rw [List.append_assoc (zs.take at_)]; exact sandL hm (Txs.app (Txs.rep (Nat.le_trans (show (Str.ofString "again 2").length ≤ 4000 by decide +kernel) (by omega))) (Txs.rep (Nat.le_trans (show (Str.ofString "end").length ≤ 4000 by decide +kernel) (by omega))))) kx
    obtain ⟨rfl, rfl⟩ := (hMid _ _).mp hm
    refine ⟨Mid, ?_, fun σ' G hm => ?_⟩
    · walk_at "rd"
      refine ite2 (fun hway => ?_) (fun hway => goM)
      refine ⟨_, SqL.of hS2, fun b hb => ?_⟩
      rw [c1] at *
      have gb : upd H2 b (.lst ((zs.take at_).map V.str)) b = some (.lst ((zs.take at_).map V.str)) := upd_same
      have kb : Kp H (upd H2 b (.lst ((zs.take at_).map V.str))) := k2.nw hb
      have hS2b : upd H2 b (.lst ((zs.take at_).map V.str)) a = some (.lst (zs.map V.str)) := Evl.Ex.new hb _ _ hS2
      clear hS2 hb
      generalize upd H2 b (.lst ((zs.take at_).map V.str)) = H_b_1 at *
      refine ⟨kb.pool hp, fun x G3 hx k3 => ?_⟩
      have k3' := kb.trans k3
      have hS2b3 := k3.get hS2b np_strs
      have gb3 := k3.get gb np_strs
      refine ⟨szl (by decide), fun c hc => ?_⟩
      have gc : upd G3 c (.lst [V.str x]) c = some (.lst (([x] : List Str).map V.str)) := upd_same
      have kc : Kp H (upd G3 c (.lst [V.str x])) := k3'.nw hc
      have hS2b3c : upd G3 c (.lst [V.str x]) a = some (.lst (zs.map V.str)) := Evl.Ex.new hc _ _ hS2b3
      have gb3c : upd G3 c (.lst [V.str x]) b = some (.lst ((zs.take at_).map V.str)) := Evl.Ex.new hc _ _ gb3
      clear hS2b3 gb3 hc
      generalize upd G3 c (.lst [V.str x]) = H_c_2 at *
      refine ⟨_, gb3c, _, gc, szl (by simp only [List.length_map, List.length_append, List.length_take, List.length_drop, List.length_cons, List.length_nil, List.length_replicate]; omega), fun d hd => ?_⟩
      rw [← List.map_append]
      have gd : upd H_c_2 d (.lst (((zs.take at_) ++ ([x] : List Str)).map V.str)) d = some (.lst (((zs.take at_) ++ ([x] : List Str)).map V.str)) := upd_same
      have kd : Kp H (upd H_c_2 d (.lst (((zs.take at_) ++ ([x] : List Str)).map V.str))) := kc.nw hd
      have hS2b3cd : upd H_c_2 d (.lst (((zs.take at_) ++ ([x] : List Str)).map V.str)) a = some (.lst (zs.map V.str)) := Evl.Ex.new hd _ _ hS2b3c
      have gb3cd : upd H_c_2 d (.lst (((zs.take at_) ++ ([x] : List Str)).map V.str)) b = some (.lst ((zs.take at_).map V.str)) := Evl.Ex.new hd _ _ gb3c
      have gcd : upd H_c_2 d (.lst (((zs.take at_) ++ ([x] : List Str)).map V.str)) c = some (.lst (([x] : List Str).map V.str)) := Evl.Ex.new hd _ _ gc
      clear hS2b3c gb3c gc hd
      generalize upd H_c_2 d (.lst (((zs.take at_) ++ ([x] : List Str)).map V.str)) = H_d_3 at *
      refine ⟨_, SqL.of hS2b3cd, fun y hy => ?_⟩
      rw [c2] at *
      have gy : upd H_d_3 y (.lst ((zs.drop at_).map V.str)) y = some (.lst ((zs.drop at_).map V.str)) := upd_same
      have ky : Kp H (upd H_d_3 y (.lst ((zs.drop at_).map V.str))) := kd.nw hy
      have hS2b3cdy : upd H_d_3 y (.lst ((zs.drop at_).map V.str)) a = some (.lst (zs.map V.str)) := Evl.Ex.new hy _ _ hS2b3cd
      have gb3cdy : upd H_d_3 y (.lst ((zs.drop at_).map V.str)) b = some (.lst ((zs.take at_).map V.str)) := Evl.Ex.new hy _ _ gb3cd
      have gcdy : upd H_d_3 y (.lst ((zs.drop at_).map V.str)) c = some (.lst (([x] : List Str).map V.str)) := Evl.Ex.new hy _ _ gcd
      have gdy : upd H_d_3 y (.lst ((zs.drop at_).map V.str)) d = some (.lst (((zs.take at_) ++ ([x] : List Str)).map V.str)) := Evl.Ex.new hy _ _ gd
      clear hS2b3cd gb3cd gcd gd hy
      generalize upd H_d_3 y (.lst ((zs.drop at_).map V.str)) = H_y_4 at *
      refine ⟨_, gdy, _, gy, szl (by simp only [List.length_map, List.length_append, List.length_take, List.length_drop, List.length_cons, List.length_nil, List.length_replicate]; omega), fun u hu => ?_⟩
      rw [← List.map_append]
      have gu : upd H_y_4 u (.lst ((((zs.take at_) ++ ([x] : List Str)) ++ (zs.drop at_)).map V.str)) u = some (.lst ((((zs.take at_) ++ ([x] : List Str)) ++ (zs.drop at_)).map V.str)) := upd_same
      have ku : Kp H (upd H_y_4 u (.lst ((((zs.take at_) ++ ([x] : List Str)) ++ (zs.drop at_)).map V.str))) := ky.nw hu
      have hS2b3cdyu : upd H_y_4 u (.lst ((((zs.take at_) ++ ([x] : List Str)) ++ (zs.drop at_)).map V.str)) a = some (.lst (zs.map V.str)) := Evl.Ex.new hu _ _ hS2b3cdy
      have gb3cdyu : upd H_y_4 u (.lst ((((zs.take at_) ++ ([x] : List Str)) ++ (zs.drop at_)).map V.str)) b = some (.lst ((zs.take at_).map V.str)) := Evl.Ex.new hu _ _ gb3cdy
      have gcdyu : upd H_y_4 u (.lst ((((zs.take at_) ++ ([x] : List Str)) ++ (zs.drop at_)).map V.str)) c = some (.lst (([x] : List Str).map V.str)) := Evl.Ex.new hu _ _ gcdy
      have gdyu : upd H_y_4 u (.lst ((((zs.take at_) ++ ([x] : List Str)) ++ (zs.drop at_)).map V.str)) d = some (.lst (((zs.take at_) ++ ([x] : List Str)).map V.str)) := Evl.Ex.new hu _ _ gdy
      have gyu : upd H_y_4 u (.lst ((((zs.take at_) ++ ([x] : List Str)) ++ (zs.drop at_)).map V.str)) y = some (.lst ((zs.drop at_).map V.str)) := Evl.Ex.new hu _ _ gy
      clear hS2b3cdy gb3cdy gcdy gdy gy hu
      generalize upd H_y_4 u (.lst ((((zs.take at_) ++ ([x] : List Str)) ++ (zs.drop at_)).map V.str)) = H_u_5 at *
      exact q u (((zs.take at_) ++ ([x] : List Str)) ++ (zs.drop at_)) _ gu (by simp only [List.length_append, List.length_take, List.length_drop, List.length_cons, List.length_nil, List.length_replicate]; omega) (fun m hm h4 => sand hm (by omega)) ku
    obtain ⟨rfl, rfl⟩ := (hMid _ _).mp hm
    refine ⟨Mid2, ?_, fun σ' G hm => ?_⟩
    · walk_at "rd"
      refine ite2 (fun hway => ?_) (fun hway => ⟨_, .inl hL2, ite2 (fun hlen => ?_) (fun hlen => (hMid2 _ _).mpr ⟨rfl, rfl, by rw [List.length_map] at hlen; omega⟩)⟩)
      · refine ⟨_, SqL.of hS2, fun b hb => ?_⟩
        rw [c1] at *
        have gb : upd H2 b (.lst ((zs.take at_).map V.str)) b = some (.lst ((zs.take at_).map V.str)) := upd_same
        have kb : Kp H (upd H2 b (.lst ((zs.take at_).map V.str))) := k2.nw hb
        have hS2b : upd H2 b (.lst ((zs.take at_).map V.str)) a = some (.lst (zs.map V.str)) := Evl.Ex.new hb _ _ hS2
        clear hS2 hb
        generalize upd H2 b (.lst ((zs.take at_).map V.str)) = H_b_1 at *
        refine ⟨kb.pool hp, fun x G3 hx k3 => ?_⟩
        have k3' := kb.trans k3
        have hS2b3 := k3.get hS2b np_strs
        have gb3 := k3.get gb np_strs
        refine ⟨szl (by decide), fun c hc => ?_⟩
        have gc : upd G3 c (.lst [V.str x]) c = some (.lst (([x] : List Str).map V.str)) := upd_same
        have kc : Kp H (upd G3 c (.lst [V.str x])) := k3'.nw hc
        have hS2b3c : upd G3 c (.lst [V.str x]) a = some (.lst (zs.map V.str)) := Evl.Ex.new hc _ _ hS2b3
        have gb3c : upd G3 c (.lst [V.str x]) b = some (.lst ((zs.take at_).map V.str)) := Evl.Ex.new hc _ _ gb3
        clear hS2b3 gb3 hc
        generalize upd G3 c (.lst [V.str x]) = H_c_2 at *
        refine ⟨_, gb3c, _, gc, szl (by simp only [List.length_map, List.length_append, List.length_take, List.length_drop, List.length_cons, List.length_nil, List.length_replicate]; omega), fun d hd => ?_⟩
        rw [← List.map_append]
        have gd : upd H_c_2 d (.lst (((zs.take at_) ++ ([x] : List Str)).map V.str)) d = some (.lst (((zs.take at_) ++ ([x] : List Str)).map V.str)) := upd_same
        have kd : Kp H (upd H_c_2 d (.lst (((zs.take at_) ++ ([x] : List Str)).map V.str))) := kc.nw hd
        have hS2b3cd : upd H_c_2 d (.lst (((zs.take at_) ++ ([x] : List Str)).map V.str)) a = some (.lst (zs.map V.str)) := Evl.Ex.new hd _ _ hS2b3c
        have gb3cd : upd H_c_2 d (.lst (((zs.take at_) ++ ([x] : List Str)).map V.str)) b = some (.lst ((zs.take at_).map V.str)) := Evl.Ex.new hd _ _ gb3c
        have gcd : upd H_c_2 d (.lst (((zs.take at_) ++ ([x] : List Str)).map V.str)) c = some (.lst (([x] : List Str).map V.str)) := Evl.Ex.new hd _ _ gc
        clear hS2b3c gb3c gc hd
        generalize upd H_c_2 d (.lst (((zs.take at_) ++ ([x] : List Str)).map V.str)) = H_d_3 at *
        refine ⟨_, SqL.of hS2b3cd, fun y hy => ?_⟩
        rw [c2] at *
        have gy : upd H_d_3 y (.lst ((zs.drop at_).map V.str)) y = some (.lst ((zs.drop at_).map V.str)) := upd_same
        have ky : Kp H (upd H_d_3 y (.lst ((zs.drop at_).map V.str))) := kd.nw hy
        have hS2b3cdy : upd H_d_3 y (.lst ((zs.drop at_).map V.str)) a = some (.lst (zs.map V.str)) := Evl.Ex.new hy _ _ hS2b3cd
        have gb3cdy : upd H_d_3 y (.lst ((zs.drop at_).map V.str)) b = some (.lst ((zs.take at_).map V.str)) := Evl.Ex.new hy _ _ gb3cd
        have gcdy : upd H_d_3 y (.lst ((zs.drop at_).map V.str)) c = some (.lst (([x] : List Str).map V.str)) := Evl.Ex.new hy _ _ gcd
        have gdy : upd H_d_3 y (.lst ((zs.drop at_).map V.str)) d = some (.lst (((zs.take at_) ++ ([x] : List Str)).map V.str)) := Evl.Ex.new hy _ _ gd
        clear hS2b3cd gb3cd gcd gd hy
        generalize upd H_d_3 y (.lst ((zs.drop at_).map V.str)) = H_y_4 at *
        refine ⟨_, gdy, _, gy, szl (by simp only [List.length_map, List.length_append, List.length_take, List.length_drop, List.length_cons, List.length_nil, List.length_replicate]; omega), fun u hu => ?_⟩
        rw [← List.map_append]
        have gu : upd H_y_4 u (.lst ((((zs.take at_) ++ ([x] : List Str)) ++ (zs.drop at_)).map V.str)) u = some (.lst ((((zs.take at_) ++ ([x] : List Str)) ++ (zs.drop at_)).map V.str)) := upd_same
        have ku : Kp H (upd H_y_4 u (.lst ((((zs.take at_) ++ ([x] : List Str)) ++ (zs.drop at_)).map V.str))) := ky.nw hu
        have hS2b3cdyu : upd H_y_4 u (.lst ((((zs.take at_) ++ ([x] : List Str)) ++ (zs.drop at_)).map V.str)) a = some (.lst (zs.map V.str)) := Evl.Ex.new hu _ _ hS2b3cdy
        have gb3cdyu : upd H_y_4 u (.lst ((((zs.take at_) ++ ([x] : List Str)) ++ (zs.drop at_)).map V.str)) b = some (.lst ((zs.take at_).map V.str)) := Evl.Ex.new hu _ _ gb3cdy
        have gcdyu : upd H_y_4 u (.lst ((((zs.take at_) ++ ([x] : List Str)) ++ (zs.drop at_)).map V.str)) c = some (.lst (([x] : List Str).map V.str)) := Evl.Ex.new hu _ _ gcdy
        have gdyu : upd H_y_4 u (.lst ((((zs.take at_) ++ ([x] : List Str)) ++ (zs.drop at_)).map V.str)) d = some (.lst (((zs.take at_) ++ ([x] : List Str)).map V.str)) := Evl.Ex.new hu _ _ gdy
        have gyu : upd H_y_4 u (.lst ((((zs.take at_) ++ ([x] : List Str)) ++ (zs.drop at_)).map V.str)) y = some (.lst ((zs.drop at_).map V.str)) := Evl.Ex.new hu _ _ gy
        clear hS2b3cdy gb3cdy gcdy gdy gy hu
        generalize upd H_y_4 u (.lst ((((zs.take at_) ++ ([x] : List Str)) ++ (zs.drop at_)).map V.str)) = H_u_5 at *
        exact q u (((zs.take at_) ++ ([x] : List Str)) ++ (zs.drop at_)) _ gu (by simp only [List.length_append, List.length_take, List.length_drop, List.length_cons, List.length_nil, List.length_replicate]; omega) (fun m hm h4 => sand hm (by omega)) ku
      · refine ⟨_, SqL.of hS2, fun b hb => ?_⟩
        rw [c1] at *
        have gb : upd H2 b (.lst ((zs.take at_).map V.str)) b = some (.lst ((zs.take at_).map V.str)) := upd_same
        have kb : Kp H (upd H2 b (.lst ((zs.take at_).map V.str))) := k2.nw hb
        have hS2b : upd H2 b (.lst ((zs.take at_).map V.str)) a = some (.lst (zs.map V.str)) := Evl.Ex.new hb _ _ hS2
        clear hS2 hb
        generalize upd H2 b (.lst ((zs.take at_).map V.str)) = H_b_1 at *
        refine ⟨kb.pool hp, fun x G3 hx k3 => ?_⟩
        have k3' := kb.trans k3
        have hS2b3 := k3.get hS2b np_strs
        have gb3 := k3.get gb np_strs
        refine ⟨szl (by decide), fun c hc => ?_⟩
        have gc : upd G3 c (.lst [V.str x]) c = some (.lst (([x] : List Str).map V.str)) := upd_same
        have kc : Kp H (upd G3 c (.lst [V.str x])) := k3'.nw hc
        have hS2b3c : upd G3 c (.lst [V.str x]) a = some (.lst (zs.map V.str)) := Evl.Ex.new hc _ _ hS2b3
        have gb3c : upd G3 c (.lst [V.str x]) b = some (.lst ((zs.take at_).map V.str)) := Evl.Ex.new hc _ _ gb3
        clear hS2b3 gb3 hc
        generalize upd G3 c (.lst [V.str x]) = H_c_2 at *
        refine ⟨_, gb3c, _, gc, szl (by simp only [List.length_map, List.length_append, List.length_take, List.length_drop, List.length_cons, List.length_nil, List.length_replicate]; omega), fun d hd => ?_⟩
        rw [← List.map_append]
        have gd : upd H_c_2 d (.lst (((zs.take at_) ++ ([x] : List Str)).map V.str)) d = some (.lst (((zs.take at_) ++ ([x] : List Str)).map V.str)) := upd_same
        have kd : Kp H (upd H_c_2 d (.lst (((zs.take at_) ++ ([x] : List Str)).map V.str))) := kc.nw hd
        have hS2b3cd : upd H_c_2 d (.lst (((zs.take at_) ++ ([x] : List Str)).map V.str)) a = some (.lst (zs.map V.str)) := Evl.Ex.new hd _ _ hS2b3c
        have gb3cd : upd H_c_2 d (.lst (((zs.take at_) ++ ([x] : List Str)).map V.str)) b = some (.lst ((zs.take at_).map V.str)) := Evl.Ex.new hd _ _ gb3c
        have gcd : upd H_c_2 d (.lst (((zs.take at_) ++ ([x] : List Str)).map V.str)) c = some (.lst (([x] : List Str).map V.str)) := Evl.Ex.new hd _ _ gc
        clear hS2b3c gb3c gc hd
        generalize upd H_c_2 d (.lst (((zs.take at_) ++ ([x] : List Str)).map V.str)) = H_d_3 at *
        refine ⟨_, SqL.of hS2b3cd, fun y hy => ?_⟩
        rw [c2] at *
        have gy : upd H_d_3 y (.lst ((zs.drop at_).map V.str)) y = some (.lst ((zs.drop at_).map V.str)) := upd_same
        have ky : Kp H (upd H_d_3 y (.lst ((zs.drop at_).map V.str))) := kd.nw hy
        have hS2b3cdy : upd H_d_3 y (.lst ((zs.drop at_).map V.str)) a = some (.lst (zs.map V.str)) := Evl.Ex.new hy _ _ hS2b3cd
        have gb3cdy : upd H_d_3 y (.lst ((zs.drop at_).map V.str)) b = some (.lst ((zs.take at_).map V.str)) := Evl.Ex.new hy _ _ gb3cd
        have gcdy : upd H_d_3 y (.lst ((zs.drop at_).map V.str)) c = some (.lst (([x] : List Str).map V.str)) := Evl.Ex.new hy _ _ gcd
        have gdy : upd H_d_3 y (.lst ((zs.drop at_).map V.str)) d = some (.lst (((zs.take at_) ++ ([x] : List Str)).map V.str)) := Evl.Ex.new hy _ _ gd
        clear hS2b3cd gb3cd gcd gd hy
        generalize upd H_d_3 y (.lst ((zs.drop at_).map V.str)) = H_y_4 at *
        refine ⟨_, gdy, _, gy, szl (by simp only [List.length_map, List.length_append, List.length_take, List.length_drop, List.length_cons, List.length_nil, List.length_replicate]; omega), fun u hu => ?_⟩
        rw [← List.map_append]
        have gu : upd H_y_4 u (.lst ((((zs.take at_) ++ ([x] : List Str)) ++ (zs.drop at_)).map V.str)) u = some (.lst ((((zs.take at_) ++ ([x] : List Str)) ++ (zs.drop at_)).map V.str)) := upd_same
        have ku : Kp H (upd H_y_4 u (.lst ((((zs.take at_) ++ ([x] : List Str)) ++ (zs.drop at_)).map V.str))) := ky.nw hu
        have hS2b3cdyu : upd H_y_4 u (.lst ((((zs.take at_) ++ ([x] : List Str)) ++ (zs.drop at_)).map V.str)) a = some (.lst (zs.map V.str)) := Evl.Ex.new hu _ _ hS2b3cdy
        have gb3cdyu : upd H_y_4 u (.lst ((((zs.take at_) ++ ([x] : List Str)) ++ (zs.drop at_)).map V.str)) b = some (.lst ((zs.take at_).map V.str)) := Evl.Ex.new hu _ _ gb3cdy
        have gcdyu : upd H_y_4 u (.lst ((((zs.take at_) ++ ([x] : List Str)) ++ (zs.drop at_)).map V.str)) c = some (.lst (([x] : List Str).map V.str)) := Evl.Ex.new hu _ _ gcdy
        have gdyu : upd H_y_4 u (.lst ((((zs.take at_) ++ ([x] : List Str)) ++ (zs.drop at_)).map V.str)) d = some (.lst (((zs.take at_) ++ ([x] : List Str)).map V.str)) := Evl.Ex.new hu _ _ gdy
        have gyu : upd H_y_4 u (.lst ((((zs.take at_) ++ ([x] : List Str)) ++ (zs.drop at_)).map V.str)) y = some (.lst ((zs.drop at_).map V.str)) := Evl.Ex.new hu _ _ gy
        clear hS2b3cdy gb3cdy gcdy gdy gy hu
        generalize upd H_y_4 u (.lst ((((zs.take at_) ++ ([x] : List Str)) ++ (zs.drop at_)).map V.str)) = H_u_5 at *
        exact q u (((zs.take at_) ++ ([x] : List Str)) ++ (zs.drop at_)) _ gu (by simp only [List.length_append, List.length_take, List.length_drop, List.length_cons, List.length_nil, List.length_replicate]; omega) (fun m hm h4 => sand hm (by omega)) ku
    obtain ⟨rfl, rfl, hat2⟩ := (hMid2 _ _).mp hm
    walk_at "rd"
    obtain ⟨z, hz2⟩ : ∃ z, zs[at_]? = some z := ⟨_, List.getElem?_eq_getElem hat2⟩
    have az : atI (zs.map V.str) (at_ : Int) = some (.str z) := ati (j := at_) rfl (by rw [List.getElem?_map, hz2]; rfl)
    have zl := hz z (List.mem_of_getElem? hz2)
    have s1 : (Str.ofString " ").length = 1 := by decide +kernel
    refine ⟨_, SqL.of hS2, fun b hb => ?_⟩
    rw [c1] at *
    have gb : upd H2 b (.lst ((zs.take at_).map V.str)) b = some (.lst ((zs.take at_).map V.str)) := upd_same
    have kb : Kp H (upd H2 b (.lst ((zs.take at_).map V.str))) := k2.nw hb
    have hS2b : upd H2 b (.lst ((zs.take at_).map V.str)) a = some (.lst (zs.map V.str)) := Evl.Ex.new hb _ _ hS2
    clear hS2 hb
    generalize upd H2 b (.lst ((zs.take at_).map V.str)) = H_b_1 at *
    refine ⟨_, SqL.of hS2b, .str z, az, z, rfl, szl (by omega), _, SqL.of hS2b, .str z, az, z, rfl, szl (by omega), by rw [sizeLine_eq]; decide, fun c hc => ?_⟩
    have gc : upd H_b_1 c (.lst [V.str (Str.ofString " " ++ z), V.str (z ++ Str.ofString " ")]) c = some (.lst (([Str.ofString " " ++ z, z ++ Str.ofString " "] : List Str).map V.str)) := upd_same
    have kc : Kp H (upd H_b_1 c (.lst [V.str (Str.ofString " " ++ z), V.str (z ++ Str.ofString " ")])) := kb.nw hc
    have hS2bc : upd H_b_1 c (.lst [V.str (Str.ofString " " ++ z), V.str (z ++ Str.ofString " ")]) a = some (.lst (zs.map V.str)) := Evl.Ex.new hc _ _ hS2b
    have gbc : upd H_b_1 c (.lst [V.str (Str.ofString " " ++ z), V.str (z ++ Str.ofString " ")]) b = some (.lst ((zs.take at_).map V.str)) := Evl.Ex.new hc _ _ gb
    clear hS2b gb hc
    generalize upd H_b_1 c (.lst [V.str (Str.ofString " " ++ z), V.str (z ++ Str.ofString " ")]) = H_c_2 at *
    refine ⟨p, 2, ⟨rfl, rfl⟩, kc.pool hp, by decide, by decide, fun r G1 hr kG1 => ?_⟩
    have kG1' := kc.trans kG1
    have hS2bcG1 := kG1.get hS2bc np_strs
    have gbcG1 := kG1.get gbc np_strs
    have gcG1 := kG1.get gc np_strs
    obtain ⟨x, hx, ex⟩ := pick (zs := ([Str.ofString " " ++ z, z ++ Str.ofString " "] : List Str)) (r := r) hr
    have hxl : x.length = z.length + 1 := by
      rcases List.mem_cons.mp hx with e | e
      · rw [e, Str.length_append, s1]
        omega
      · rw [List.mem_singleton.mp e, Str.length_append, s1]
    refine ⟨_, SqL.of gcG1, .str x, ex, ?_⟩
    refine ⟨szl (by decide), fun d hd => ?_⟩
    have gd : upd G1 d (.lst [V.str x]) d = some (.lst (([x] : List Str).map V.str)) := upd_same
    have kd : Kp H (upd G1 d (.lst [V.str x])) := kG1'.nw hd
    have hS2bcG1d : upd G1 d (.lst [V.str x]) a = some (.lst (zs.map V.str)) := Evl.Ex.new hd _ _ hS2bcG1
    have gbcG1d : upd G1 d (.lst [V.str x]) b = some (.lst ((zs.take at_).map V.str)) := Evl.Ex.new hd _ _ gbcG1
    have gcG1d : upd G1 d (.lst [V.str x]) c = some (.lst (([Str.ofString " " ++ z, z ++ Str.ofString " "] : List Str).map V.str)) := Evl.Ex.new hd _ _ gcG1
    clear hS2bcG1 gbcG1 gcG1 hd
    generalize upd G1 d (.lst [V.str x]) = H_d_3 at *
    refine ⟨_, gbcG1d, _, gd, szl (by simp only [List.length_map, List.length_append, List.length_take, List.length_drop, List.length_cons, List.length_nil, List.length_replicate]; omega), fun u hu => ?_⟩
    rw [← List.map_append]
    have gu : upd H_d_3 u (.lst (((zs.take at_) ++ ([x] : List Str)).map V.str)) u = some (.lst (((zs.take at_) ++ ([x] : List Str)).map V.str)) := upd_same
    have ku : Kp H (upd H_d_3 u (.lst (((zs.take at_) ++ ([x] : List Str)).map V.str))) := kd.nw hu
    have hS2bcG1du : upd H_d_3 u (.lst (((zs.take at_) ++ ([x] : List Str)).map V.str)) a = some (.lst (zs.map V.str)) := Evl.Ex.new hu _ _ hS2bcG1d
    have gbcG1du : upd H_d_3 u (.lst (((zs.take at_) ++ ([x] : List Str)).map V.str)) b = some (.lst ((zs.take at_).map V.str)) := Evl.Ex.new hu _ _ gbcG1d
    have gcG1du : upd H_d_3 u (.lst (((zs.take at_) ++ ([x] : List Str)).map V.str)) c = some (.lst (([Str.ofString " " ++ z, z ++ Str.ofString " "] : List Str).map V.str)) := Evl.Ex.new hu _ _ gcG1d
    have gdu : upd H_d_3 u (.lst (((zs.take at_) ++ ([x] : List Str)).map V.str)) d = some (.lst (([x] : List Str).map V.str)) := Evl.Ex.new hu _ _ gd
    clear hS2bcG1d gbcG1d gcG1d gd hu
    generalize upd H_d_3 u (.lst (((zs.take at_) ++ ([x] : List Str)).map V.str)) = H_u_4 at *
    refine ⟨_, SqL.of hS2bcG1du, fun y hy => ?_⟩
    rw [c3] at *
    have gy : upd H_u_4 y (.lst ((zs.drop (at_ + 1)).map V.str)) y = some (.lst ((zs.drop (at_ + 1)).map V.str)) := upd_same
    have ky : Kp H (upd H_u_4 y (.lst ((zs.drop (at_ + 1)).map V.str))) := ku.nw hy
    have hS2bcG1duy : upd H_u_4 y (.lst ((zs.drop (at_ + 1)).map V.str)) a = some (.lst (zs.map V.str)) := Evl.Ex.new hy _ _ hS2bcG1du
    have gbcG1duy : upd H_u_4 y (.lst ((zs.drop (at_ + 1)).map V.str)) b = some (.lst ((zs.take at_).map V.str)) := Evl.Ex.new hy _ _ gbcG1du
    have gcG1duy : upd H_u_4 y (.lst ((zs.drop (at_ + 1)).map V.str)) c = some (.lst (([Str.ofString " " ++ z, z ++ Str.ofString " "] : List Str).map V.str)) := Evl.Ex.new hy _ _ gcG1du
    have gduy : upd H_u_4 y (.lst ((zs.drop (at_ + 1)).map V.str)) d = some (.lst (([x] : List Str).map V.str)) := Evl.Ex.new hy _ _ gdu
    have guy : upd H_u_4 y (.lst ((zs.drop (at_ + 1)).map V.str)) u = some (.lst (((zs.take at_) ++ ([x] : List Str)).map V.str)) := Evl.Ex.new hy _ _ gu
    clear hS2bcG1du gbcG1du gcG1du gdu gu hy
    generalize upd H_u_4 y (.lst ((zs.drop (at_ + 1)).map V.str)) = H_y_5 at *
    refine ⟨_, guy, _, gy, szl (by simp only [List.length_map, List.length_append, List.length_take, List.length_drop, List.length_cons, List.length_nil, List.length_replicate]; omega), fun v hv => ?_⟩
    rw [← List.map_append]
    have gv : upd H_y_5 v (.lst ((((zs.take at_) ++ ([x] : List Str)) ++ (zs.drop (at_ + 1))).map V.str)) v = some (.lst ((((zs.take at_) ++ ([x] : List Str)) ++ (zs.drop (at_ + 1))).map V.str)) := upd_same
    have kv : Kp H (upd H_y_5 v (.lst ((((zs.take at_) ++ ([x] : List Str)) ++ (zs.drop (at_ + 1))).map V.str))) := ky.nw hv
    have hS2bcG1duyv : upd H_y_5 v (.lst ((((zs.take at_) ++ ([x] : List Str)) ++ (zs.drop (at_ + 1))).map V.str)) a = some (.lst (zs.map V.str)) := Evl.Ex.new hv _ _ hS2bcG1duy
    have gbcG1duyv : upd H_y_5 v (.lst ((((zs.take at_) ++ ([x] : List Str)) ++ (zs.drop (at_ + 1))).map V.str)) b = some (.lst ((zs.take at_).map V.str)) := Evl.Ex.new hv _ _ gbcG1duy
    have gcG1duyv : upd H_y_5 v (.lst ((((zs.take at_) ++ ([x] : List Str)) ++ (zs.drop (at_ + 1))).map V.str)) c = some (.lst (([Str.ofString " " ++ z, z ++ Str.ofString " "] : List Str).map V.str)) := Evl.Ex.new hv _ _ gcG1duy
    have gduyv : upd H_y_5 v (.lst ((((zs.take at_) ++ ([x] : List Str)) ++ (zs.drop (at_ + 1))).map V.str)) d = some (.lst (([x] : List Str).map V.str)) := Evl.Ex.new hv _ _ gduy
    have guyv : upd H_y_5 v (.lst ((((zs.take at_) ++ ([x] : List Str)) ++ (zs.drop (at_ + 1))).map V.str)) u = some (.lst (((zs.take at_) ++ ([x] : List Str)).map V.str)) := Evl.Ex.new hv _ _ guy
    have gyv : upd H_y_5 v (.lst ((((zs.take at_) ++ ([x] : List Str)) ++ (zs.drop (at_ + 1))).map V.str)) y = some (.lst ((zs.drop (at_ + 1)).map V.str)) := Evl.Ex.new hv _ _ gy
    clear hS2bcG1duy gbcG1duy gcG1duy gduy guy gy hv
    generalize upd H_y_5 v (.lst ((((zs.take at_) ++ ([x] : List Str)) ++ (zs.drop (at_ + 1))).map V.str)) = H_v_6 at *
    exact q v (((zs.take at_) ++ ([x] : List Str)) ++ (zs.drop (at_ + 1))) _ gv (by simp only [List.length_append, List.length_take, List.length_drop, List.length_cons, List.length_nil, List.length_replicate]; omega) (fun m hm h4 => sand hm (by have := hm z (List.mem_of_getElem? hz2); omega)) kv
end
end K89

namespace K89
open PySem PySem.Spec PyProof.Rows L2 Lv
local macro_rules | `(tactic| walk_at "rd") => `(tactic| simp only [spTake, r_seq, r_next, r_break, r_cont, r_asg, r_name, r_drop, r_ret, r_retN, r_if, r_var, r_c, r_op, r_un, r_test, r_B, r_and, r_or, r_not, r_andV, r_orV, r_notV, r_ifE, r_nil, r_cons, r_tup, r_lst, r_call, r_CB, r_BM, r_BM0, r_M1, r_M0, r_Sl, r_part, r_nopart, r_chain, r_I0, r_I, r_eq, r_ne, r_U, r_ixL, r_ixT, r_ixS, r_slL, r_slS, r_append, r_pop, r_sub, r_setL, r_cat, r_rep, r_in, r_strs, r_match, r_lc, r_for, r_iStr, r_iList, r_iTup, r_iRng1, r_iRng2, r_iEnumK, sign_inj, r_all, r_tStrs, r_gTup, r_gCons, r_gNil, wipe, cx_K, cx_N, cx_sc, r_stNil, st_start, List.set_cons_zero, List.set_cons_succ, List.getElem?_cons_zero, List.getElem?_cons_succ, Option.some.injEq, V.int.injEq, V.str.injEq, V.bl.injEq, V.ref.injEq, exists_eq_left', exists_eq_left, exists_eq', exists_and_left, true_and, and_true, exists_eq, exists_const, List.cons_append, List.nil_append, List.append_nil, List.cons.injEq, List.map_cons, List.map_nil, List.length_cons, List.length_nil, Nat.reduceAdd, Nat.reduceSub, List.replicate_succ, List.replicate_zero, Bool.not_eq_true', Bool.not_true, Bool.not_false, Bool.false_eq_true, if_true, if_false, ite_true, ite_false, decide_eq_true_eq, sc_ss, sc_ii, sc_bb, reduceCtorEq])
local macro_rules | `(tactic| walk_at "v") => `(tactic| refine ⟨_, rfl, ?_⟩)
local macro_rules | `(tactic| walk_at "sz") => `(tactic| first | exact Nat.le_trans (by assumption) (by decide) | exact Nat.zero_le _ | (rw [sizeLine_eq]; simp <;> omega) | omega)

/-- of equal depth at most n, no list of more than 900000 items -/
def okD : Nat → Dt → Prop
  | 0, _ => False
  | n + 1, .l ds => ds.length ≤ 900000 ∧ ∀ d ∈ ds, okD n d
  | n + 1, .t ds => ds.length ≤ 900000 ∧ ∀ d ∈ ds, okD n d
  | _ + 1, _ => True
def spSame (n : Nat) : Sp := fun vs H Q _ => ∃ va ve d, vs = [va, ve] ∧ Is H va d ∧ Is H ve d ∧ okD n d ∧ ∀ H', Same H H' → Q (.bl true) H'
theorem isiT {K : PySem.W.Frag} {x : V} {t n : String} {b : Bool} {H : Hp} {Q : VK} (ty : TyX K H x (.type t)) (e : PySem.W.kitOne K (.type t) (.type n) = some b) (q : Q (.bl b) H) : rIsi K [x, .ty n] H Q := ⟨x, .ty n, _, _, b, rfl, .ty n, ty, e, q⟩
theorem yes1 {A B : Prop} (h : A) : if true = true then A else B := h
theorem no1 {A B : Prop} (h : B) : if false = true then A else B := h
theorem no2 {A B : Prop} (h : B) : if true = false then A else B := h
theorem yes2 {A B : Prop} (h : A) : if false = false then A else B := h
section
variable {w : World} {K : PySem.W.Frag} {mg : Str → Option Value} {base : Heap}
theorem ok__law_same (T : Txt K mg) : ∀ n, FnOk Pg w K mg base CX0 (n + 1) T.a__law_same T.d__law_same ["actual", "expected"] (spSame n)
  | 0 => by
    refine T.f__law_same.ok sc__law_same (fun vs H Q E h => ?_) (fun cdv A outer s H vs Q E hr h => ?_)
    · obtain ⟨va, ve, d, rfl, _⟩ := h
      rfl
    · obtain ⟨va, ve, d, rfl, h1, h2, h3, q⟩ := h
      exact h3.elim
  | n + 1 => by
    have G__law_same := ok__law_same T n
    refine T.f__law_same.ok sc__law_same (fun vs H Q E h => ?_) (fun cdv A outer s H vs Q E hr h => ?_)
    · obtain ⟨va, ve, d, rfl, _⟩ := h
      rfl
    · obtain ⟨va, ve, d, rfl, h1, h2, h3, q⟩ := h
      refine ⟨_, (pss_cons (ps_if (pt_val (pe_callB call_isi (by rfl) T.z_isinstance (by decide +kernel) (pa_cons (pv 1) (pa_cons (pe_bltn (v := .ty "tuple") rfl T.z_tuple (by decide +kernel) rfl) pa_nil))))
  (pss_cons (ps_if (PW.pt (pw_or (pt_not (pt_val (pe_callB call_isi (by rfl) T.z_isinstance (by decide +kernel) (pa_cons (pv 0) (pa_cons (pe_bltn (v := .ty "tuple") rfl T.z_tuple (by decide +kernel) rfl) pa_nil))))) (pw_or1 (pt_cmpR op_ne (pe_callB call_len_seq (by rfl) T.z_len PySem.boot_len (pa_cons (pv 0) pa_nil)) (pe_callB call_len_seq (by rfl) T.z_len PySem.boot_len (pa_cons (pv 1) pa_nil)) (nomark _)))))
  (pss_one (ps_ret pe_bl))
  pss_nil)
  (pss_one (ps_ret (pe_callB (cr_all rfl) (by rfl) T.z_all (by decide +kernel) (pa_cons (pe_lc (own := [("k", 2)]) (g := gName 2) (tt := tYes) (by rfl) sc__law_same.nd (pi_range1 (by rfl) T.z_range (pa_cons (pe_callB call_len_seq (by rfl) T.z_len PySem.boot_len (pa_cons (pv 1) pa_nil)) pa_nil)) (blkOk_by (own := [("k", 2)]) (N := ["actual", "expected", "k", "key"]) (sc := defScope s__law_same) (by decide +kernel)) (fun _ _ _ _ _ => (pg_name (i := 2) sc__law_same.nd rfl (Or.inl rfl))) (fun _ _ _ _ _ => pts_nil) (fun _ _ _ _ _ => (pe_call G__law_same (hr.mono (by omega)) (by rfl) T.g__law_same T.f__law_same.kp T.b__law_same .nil pass0 (pa_cons (pe_ix (r := rIx K) ix_seq (pv 0) (pv 2) (fun _ _ => rfl)) (pa_cons (pe_ix (r := rIx K) ix_seq (pv 1) (pv 2) (fun _ _ => rfl)) pa_nil))))) pa_nil)))))
  pss_nil)
  (pss_cons (ps_if (pt_val (pe_callB call_isi (by rfl) T.z_isinstance (by decide +kernel) (pa_cons (pv 1) (pa_cons (pe_bltn (v := .ty "list") rfl T.z_list (by decide +kernel) rfl) pa_nil))))
  (pss_cons (ps_if (PW.pt (pw_or (pt_not (pt_val (pe_callB call_isi (by rfl) T.z_isinstance (by decide +kernel) (pa_cons (pv 0) (pa_cons (pe_bltn (v := .ty "list") rfl T.z_list (by decide +kernel) rfl) pa_nil))))) (pw_or1 (pt_cmpR op_ne (pe_callB call_len_seq (by rfl) T.z_len PySem.boot_len (pa_cons (pv 0) pa_nil)) (pe_callB call_len_seq (by rfl) T.z_len PySem.boot_len (pa_cons (pv 1) pa_nil)) (nomark _)))))
  (pss_one (ps_ret pe_bl))
  pss_nil)
  (pss_one (ps_ret (pe_callB (cr_all rfl) (by rfl) T.z_all (by decide +kernel) (pa_cons (pe_lc (own := [("k", 2)]) (g := gName 2) (tt := tYes) (by rfl) sc__law_same.nd (pi_range1 (by rfl) T.z_range (pa_cons (pe_callB call_len_seq (by rfl) T.z_len PySem.boot_len (pa_cons (pv 1) pa_nil)) pa_nil)) (blkOk_by (own := [("k", 2)]) (N := ["actual", "expected", "k", "key"]) (sc := defScope s__law_same) (by decide +kernel)) (fun _ _ _ _ _ => (pg_name (i := 2) sc__law_same.nd rfl (Or.inl rfl))) (fun _ _ _ _ _ => pts_nil) (fun _ _ _ _ _ => (pe_call G__law_same (hr.mono (by omega)) (by rfl) T.g__law_same T.f__law_same.kp T.b__law_same .nil pass0 (pa_cons (pe_ix (r := rIx K) ix_seq (pv 0) (pv 2) (fun _ _ => rfl)) (pa_cons (pe_ix (r := rIx K) ix_seq (pv 1) (pv 2) (fun _ _ => rfl)) pa_nil))))) pa_nil)))))
  pss_nil)
  (pss_cons (ps_if (pt_val (pe_callB call_isi (by rfl) T.z_isinstance (by decide +kernel) (pa_cons (pv 1) (pa_cons (pe_bltn (v := .ty "dict") rfl T.z_dict (by decide +kernel) rfl) pa_nil))))
  pss_never
  pss_nil)
  (pss_cons (ps_if (pt_cmpR op_isN (pv 1) pe_non (nomark _))
  (pss_one (ps_ret (pe_cmpR op_isN (pv 0) pe_non (nomark _))))
  pss_nil)
  (pss_cons (ps_if (pt_cmpR op_isTF (pv 1) pe_bl (nomark _))
  (pss_one (ps_ret (pe_cmpR op_isTF (pv 0) pe_bl (nomark _))))
  pss_nil)
  (pss_cons (ps_if (pt_cmpR op_isTF (pv 1) pe_bl (nomark _))
  (pss_one (ps_ret (pe_cmpR op_isTF (pv 0) pe_bl (nomark _))))
  pss_nil)
  (pss_cons (ps_if (pt_val (pe_callB call_isi (by rfl) T.z_isinstance (by decide +kernel) (pa_cons (pv 1) (pa_cons (pe_bltn (v := .ty "int") rfl T.z_int (by decide +kernel) rfl) pa_nil))))
  (pss_one (ps_ret (pe_and (pe_callB call_isi (by rfl) T.z_isinstance (by decide +kernel) (pa_cons (pv 0) (pa_cons (pe_bltn (v := .ty "int") rfl T.z_int (by decide +kernel) rfl) pa_nil))) (pe_and (pe_not (pe_callB call_isi (by rfl) T.z_isinstance (by decide +kernel) (pa_cons (pv 0) (pa_cons (pe_bltn (v := .ty "bool") rfl T.z_bool (by decide +kernel) rfl) pa_nil)))) (pe_one (pe_cmpR op_eq (pv 0) (pv 1) (nomark _)))))))
  pss_nil)
  (pss_one (ps_ret (pe_and (pe_callB call_isi (by rfl) T.z_isinstance (by decide +kernel) (pa_cons (pv 0) (pa_cons (pe_bltn (v := .ty "str") rfl T.z_str (by decide +kernel) rfl) pa_nil))) (pe_one (pe_cmpR op_eq (pv 0) (pv 1) (nomark _))))))))))))), ?_⟩
      walk_at "rd"
      cases d with
      | s z =>
        cases h1
        cases h2
        have ty : TyX K H (.str z) (.type "str") := .base (.str z)
        refine isiT ty rfl ⟨_, rfl, no1 (isiT ty rfl ⟨_, rfl, no1 (isiT ty rfl ⟨_, rfl, no1 (ite2 (fun h => by cases h) (fun _ => ⟨true, false, rfl, rfl, _, rfl, no1 ⟨false, false, rfl, rfl, _, rfl, no1 (isiT ty rfl ⟨_, rfl, no1 (isiT ty rfl ⟨_, rfl, yes1 ⟨rfl, ?_⟩⟩)⟩)⟩⟩))⟩)⟩)⟩
        rw [decide_eq_true rfl]
        exact q H (Same.refl _)
      | i z =>
        cases h1
        cases h2
        have ty : TyX K H (.int z) (.type "int") := .base (.int z)
        refine isiT ty rfl ⟨_, rfl, no1 (isiT ty rfl ⟨_, rfl, no1 (isiT ty rfl ⟨_, rfl, no1 (ite2 (fun h => by cases h) (fun _ => ⟨true, false, rfl, rfl, _, rfl, no1 ⟨false, false, rfl, rfl, _, rfl, no1 (isiT ty rfl ⟨_, rfl, yes1 (isiT ty rfl ⟨_, rfl, yes1 (isiT ty rfl ⟨_, rfl, yes2 ⟨rfl, ?_⟩⟩)⟩)⟩)⟩⟩))⟩)⟩)⟩
        rw [decide_eq_true rfl]
        exact q H (Same.refl _)
      | b z =>
        cases h1
        cases h2
        have ty : TyX K H (.bl z) (.type "bool") := .base (.bl z)
        refine isiT ty rfl ⟨_, rfl, no1 (isiT ty rfl ⟨_, rfl, no1 (isiT ty rfl ⟨_, rfl, no1 (ite2 (fun h => by cases h) (fun _ => ?_))⟩)⟩)⟩
        cases z with
        | true => exact ⟨true, true, rfl, rfl, _, rfl, yes1 ⟨true, true, rfl, rfl, q H (Same.refl _)⟩⟩
        | false => exact ⟨true, false, rfl, rfl, _, rfl, no1 ⟨false, true, rfl, rfl, _, rfl, yes1 ⟨false, true, rfl, rfl, q H (Same.refl _)⟩⟩⟩
      | t ds =>
        obtain ⟨a, vs, rfl, ha, hvs⟩ := h1.un_t
        obtain ⟨e, us, rfl, he, hus⟩ := h2.un_t
        have tyA : TyX K H (.ref a) (.type "tuple") := .base (.tup ha)
        have tyE : TyX K H (.ref e) (.type "tuple") := .base (.tup he)
        have lv := hvs.len
        have lu := hus.len
        have l3 := h3.1
        refine isiT tyE rfl ⟨_, rfl, yes1 (isiT tyA rfl ⟨_, rfl, no2 ⟨a, rfl, vs, .inr (SqT.of ha), e, rfl, us, .inr (SqT.of he), ?_⟩⟩)⟩
        rw [lv, lu, decide_eq_true rfl]
        refine no2 ⟨e, rfl, us, .inr (SqT.of he), by omega, by omega, ?_⟩
        rw [lu]
        refine lc_rangeE (n := ds.length) (fun _ => V.bl true) (by omega) (fun _ => rfl) (fun i H1 e1 hi QQ qq => ?_) (fun D H1 hD e1 hD1 => ?_)
        · obtain ⟨v, hv⟩ : ∃ v, vs[i]? = some v := ⟨_, List.getElem?_eq_getElem (by omega)⟩
          obtain ⟨u, hu⟩ : ∃ v, us[i]? = some v := ⟨_, List.getElem?_eq_getElem (by omega)⟩
          obtain ⟨d, hd, d1⟩ := hvs.at i hv
          obtain ⟨d', hd', d2⟩ := hus.at i hu
          rw [hd] at hd'
          cases hd'
          walk_at "rd"
          exact .inr (.inl ⟨a, vs, i, v, rfl, rfl, SqT.of (e1 _ _ ha), ati (j := i) rfl hv, .inr (.inl ⟨e, us, i, u, rfl, rfl, SqT.of (e1 _ _ he), ati (j := i) rfl hu, v, u, d, rfl, d1.ex e1, d2.ex e1, h3.2 d (List.mem_of_getElem? hd), fun H' k => qq H' k⟩)⟩)
        · have eb : (List.range ds.length).map (fun _ => V.bl true) = ((List.range ds.length).map (fun _ => true)).map V.bl := by rw [List.map_map]; rfl
          rw [eb] at hD1
          refine ⟨D, rfl, _, SqL.of hD1, ?_⟩
          have ea : ((List.range ds.length).map (fun _ => true)).all id = true := by simp
          rw [ea]
          exact q H1 e1
      | l ds =>
        obtain ⟨a, vs, rfl, ha, hvs⟩ := h1.un_l
        obtain ⟨e, us, rfl, he, hus⟩ := h2.un_l
        have tyA : TyX K H (.ref a) (.type "list") := .base (.lst ha)
        have tyE : TyX K H (.ref e) (.type "list") := .base (.lst he)
        have lv := hvs.len
        have lu := hus.len
        have l3 := h3.1
        refine isiT tyE rfl ⟨_, rfl, no1 (isiT tyE rfl ⟨_, rfl, yes1 (isiT tyA rfl ⟨_, rfl, no2 ⟨a, rfl, vs, .inl (SqL.of ha), e, rfl, us, .inl (SqL.of he), ?_⟩⟩)⟩)⟩
        rw [lv, lu, decide_eq_true rfl]
        refine no2 ⟨e, rfl, us, .inl (SqL.of he), by omega, by omega, ?_⟩
        rw [lu]
        refine lc_rangeE (n := ds.length) (fun _ => V.bl true) (by omega) (fun _ => rfl) (fun i H1 e1 hi QQ qq => ?_) (fun D H1 hD e1 hD1 => ?_)
        · obtain ⟨v, hv⟩ : ∃ v, vs[i]? = some v := ⟨_, List.getElem?_eq_getElem (by omega)⟩
          obtain ⟨u, hu⟩ : ∃ v, us[i]? = some v := ⟨_, List.getElem?_eq_getElem (by omega)⟩
          obtain ⟨d, hd, d1⟩ := hvs.at i hv
          obtain ⟨d', hd', d2⟩ := hus.at i hu
          rw [hd] at hd'
          cases hd'
          walk_at "rd"
          exact .inl ⟨a, vs, i, v, rfl, rfl, SqL.of (e1 _ _ ha), ati (j := i) rfl hv, .inl ⟨e, us, i, u, rfl, rfl, SqL.of (e1 _ _ he), ati (j := i) rfl hu, v, u, d, rfl, d1.ex e1, d2.ex e1, h3.2 d (List.mem_of_getElem? hd), fun H' k => qq H' k⟩⟩
        · have eb : (List.range ds.length).map (fun _ => V.bl true) = ((List.range ds.length).map (fun _ => true)).map V.bl := by rw [List.map_map]; rfl
          rw [eb] at hD1
          refine ⟨D, rfl, _, SqL.of hD1, ?_⟩
          have ea : ((List.range ds.length).map (fun _ => true)).all id = true := by simp
          rw [ea]
          exact q H1 e1
end
end K89

namespace K89
open PySem PySem.Spec PyProof.Rows L2 Lv
local macro_rules | `(tactic| walk_at "rd") => `(tactic| simp only [tCallS, spRead, tByX, WE, r_seq, r_next, r_break, r_cont, r_asg, r_name, r_drop, r_ret, r_retN, r_if, r_var, r_c, r_op, r_un, r_test, r_B, r_and, r_or, r_not, r_andV, r_orV, r_notV, r_ifE, r_nil, r_cons, r_tup, r_lst, r_call, r_CB, r_BM, r_BM0, r_M1, r_M0, r_Sl, r_part, r_nopart, r_chain, r_I0, r_I, r_eq, r_ne, r_U, r_ixL, r_ixT, r_ixS, r_slL, r_slS, r_append, r_pop, r_sub, r_setL, r_cat, r_rep, r_in, r_strs, r_match, r_lc, r_for, r_iStr, r_iList, r_iTup, r_iRng1, r_iRng2, r_iEnumK, sign_inj, r_all, r_tStrs, r_gTup, r_gCons, r_gNil, wipe, cx_K, cx_N, cx_sc, r_stNil, st_start, List.set_cons_zero, List.set_cons_succ, List.getElem?_cons_zero, List.getElem?_cons_succ, Option.some.injEq, V.int.injEq, V.str.injEq, V.bl.injEq, V.ref.injEq, exists_eq_left', exists_eq_left, exists_eq', exists_and_left, true_and, and_true, exists_eq, exists_const, List.cons_append, List.nil_append, List.append_nil, List.cons.injEq, List.map_cons, List.map_nil, List.length_cons, List.length_nil, Nat.reduceAdd, Nat.reduceSub, List.replicate_succ, List.replicate_zero, Bool.not_eq_true', Bool.not_true, Bool.not_false, Bool.false_eq_true, if_true, if_false, ite_true, ite_false, decide_eq_true_eq, sc_ss, sc_ii, sc_bb, reduceCtorEq])
local macro_rules | `(tactic| walk_at "v") => `(tactic| refine ⟨_, rfl, ?_⟩)
local macro_rules | `(tactic| walk_at "sz") => `(tactic| first | exact Nat.le_trans (by assumption) (by decide) | exact Nat.zero_le _ | (rw [sizeLine_eq]; simp <;> omega) | omega)

/-- what the law's reading tells -/
def readD (z : Str) : Dt := match rRun 1 (rowsP z) [[]] [] with | .error n => .l [.i n, .l [.b true]] | .ok ts => .l [.i 0, .l ts]
def spRd : Sp := fun vs H Q _ => ∃ z, vs = [.str z] ∧ z.length ≤ 800000 ∧ ∀ H' v, Same H H' → Is H' v (readD z) → Q v H'
section
variable {w : World} {K : PySem.W.Frag} {mg : Str → Option Value} {base : Heap}
theorem ok__law_read (T : Txt K mg) : FnOk Pg w K mg base CX0 7 T.a__law_read T.d__law_read ["text"] spRd := by
  have G_read_script := ok_read_script (w := w) (base := base) T
  refine T.f__law_read.ok sc__law_read (fun vs H Q E h => ?_) (fun cdv A outer s H vs Q E hr h => ?_)
  · obtain ⟨z, rfl, _⟩ := h
    rfl
  · obtain ⟨z, rfl, hz, q⟩ := h
    have hr1 : Room 5 _ := hr.mono (by decide)
    refine ⟨_, (pss_cons (ps_set (i := 1) sc__law_read.nd rfl (Or.inl rfl) (pe_lst (pa_cons pe_int (pa_cons (pe_lst pa_nil) pa_nil))))
      (pss_cons (ps_try_as (i := 2) (tb := fun W => tAsg (tLst (tCons (tC (.int 0)) (tCons (tCallS (spRead T.C_BadLine) (WE W) (tCons (tVar 0) tNil)) tNil))) (gName 1))
          (ts := fun a cls d => tAsg (tLst (tCons (tByX "line" T.C_BadLine a cls d (tVar 2)) (tCons (tLst (tCons (tCB (rIsX K T.C_BadLine a cls d) (tCons (tVar 2) (tCons (tC (.ref T.C_RidesError)) tNil))) tNil)) tNil))) (gName 1)) (Wout := fun _ _ _ _ => False)
          rfl rfl sc__law_read.nd rfl rfl ⟨rfl, by decide, Or.inl T.x_BadLine.gC⟩ takes0
          (fun W pn xe tk _ => pss_one (ps_set (i := 1) sc__law_read.nd rfl (Or.inl rfl) (pe_lst (pa_cons pe_int (pa_cons (by exact (pe_callS G_read_script hr1 rfl T.g_read_script T.f_read_script.kp T.b_read_script (fun σ => passAt tk σ) (by exact (pa_cons (pv 0) pa_nil)))) pa_nil)))))
          (fun a oe cls d pn hz hf => pss_one (ps_set (i := 1) sc__law_read.nd rfl (Or.inl rfl) (pe_lst (pa_cons (by exact (pe_byX T.x_BadLine hz hf (pv 2))) (pa_cons (pe_lst (pa_cons (by exact (pe_callB (call_isX T.y_BadLine hz hf) rfl T.z_isinstance (by decide +kernel) (pa_cons (pv 2) (pa_cons (pe_gl rfl ⟨_, T.g_RidesError, rfl⟩) pa_nil)))) pa_nil)) pa_nil))))))
      (pss_one (ps_ret (pv 1))))), ?_⟩
    walk_at "rd"
    refine ⟨Nat.zero_le _, fun p hp => ⟨by rw [sizeLine_eq]; decide, fun p1 hp1 => ⟨hz, fun n en H' d s1 hd => ⟨true, T.m_BadLine, fun _ a ha => ?_, fun z => by cases z⟩, fun ts et H' a s1 ha => ⟨by rw [sizeLine_eq]; decide, fun b hb => ?_⟩⟩⟩⟩
    · have s0 : Same H H' := (Evl.Ex.new hp).trans ((Evl.Ex.new hp1).trans s1)
      walk_at "rd"
      refine ⟨_, hd, _, true, d, _, rfl, rfl, rfl, hd, T.u_BadLine, by rw [sizeLine_eq]; decide, fun x hx => ⟨by rw [sizeLine_eq]; decide, fun y hy => q _ _ (s0.trans ((Evl.Ex.new hx).trans (Evl.Ex.new hy))) ?_⟩⟩
      unfold readD
      rw [en]
      exact .l upd_same (.cons .i (.cons (.l (Evl.Ex.new hy _ _ upd_same) (.cons .b .nil)) .nil))
    · have s0 : Same H H' := (Evl.Ex.new hp).trans ((Evl.Ex.new hp1).trans s1)
      refine q _ _ (s0.trans (Evl.Ex.new hb)) ?_
      unfold readD
      rw [et]
      exact .l upd_same (.cons .i (.cons (ha.ex (Evl.Ex.new hb)) .nil))
end
end K89

namespace K89
open PySem PySem.Spec PyProof.Rows L2 Lv
/-! ### the plain law: the three readings agree -/
theorem deed_PL (x : Str) : deedL x = deedP x := deed_eq _
theorem plain_PL (x : Str) : plainL x = plainP x := by rw [plainP_eq, plainL_eq]
theorem open_PL (x : Str) : openL x = openP x := by rw [openP_eq, openL_eq]
theorem end_deed : deedP "end" = false := by decide +kernel
theorem end_plain : plainP "end" = false := by decide +kernel
theorem end_open : openP "end" = false := by decide +kernel
theorem open_deed {x : Str} (h : openP x = true) : deedP x = false := by
  rw [openP_eq] at h
  have hx := of_decide_eq_true h
  have : OPEN.all (fun z => !deedP z) = true := by decide +kernel
  simpa using List.all_eq_true.mp this x hx
theorem open_plain {x : Str} (h : openP x = true) : plainP x = false := by
  rw [openP_eq] at h
  have hx := of_decide_eq_true h
  have : OPEN.all (fun z => !plainP z) = true := by decide +kernel
  simpa using List.all_eq_true.mp this x hx
theorem deed_open {x : Str} (h : deedP x = true) : openP x = false := by
  cases e : openP x with
  | false => rfl
  | true =>
    rw [open_deed e] at h
    cases h
theorem plain_open {x : Str} (h : plainP x = true) : openP x = false := by
  cases e : openP x with
  | false => rfl
  | true =>
    rw [open_plain e] at h
    cases h
def rowsOf : List Str → List (Str × Bool)
  | [] => []
  | [x] => if x = Str.empty then [] else [(x, false)]
  | x :: y :: r => (x, true) :: rowsOf (y :: r)
theorem rowsOf_eq : ∀ (l : List Str), l ≠ [] → rowsOf l = l.dropLast.map (fun x => (x, true)) ++ (if l.getLastD Str.empty = Str.empty then [] else [(l.getLastD Str.empty, false)])
  | [], h => (h rfl).elim
  | [x], _ => by
    rw [rowsOf]
    rfl
  | x :: y :: r, _ => by
    rw [rowsOf, rowsOf_eq (y :: r) (by simp)]
    rfl
/-- the innermost list and what is read behind it, closed by the openings around -/
def joinS : List (List Dt) → List (Str × Int) → List (List Dt) → List Dt
  | p :: _, [], b :: _ => p ++ b
  | p :: q :: r, o :: os, b :: b2 :: bs => joinS ((q ++ [.t [.s o.1, .l (p ++ b)]]) :: r) os (b2 :: bs)
  | _, _, _ => []
theorem join_mid {p x b : List Dt} {r bs : List (List Dt)} : ∀ {ops : List (Str × Int)}, joinS ((p ++ x) :: r) ops (b :: bs) = joinS (p :: r) ops ((x ++ b) :: bs)
  | [] => by simp [joinS]
  | o :: os => by
    cases r with
    | nil => rfl
    | cons q r =>
      cases bs with
      | nil => rfl
      | cons b2 bs =>
        simp only [joinS, List.append_assoc]
def Agree (k : Nat) (l : List Str) (ls : List (List Dt)) (ops : List (Str × Int)) : Prop :=
  (0 < fRun k l ops ∧ rRun (k + 1) (rowsOf l) ls ops = .error (fRun k l ops)) ∨ (fRun k l ops = 0 ∧ ∃ ts bs, rRun (k + 1) (rowsOf l) ls ops = .ok ts ∧ bRun l.dropLast = some bs ∧ bs.length = ls.length ∧ joinS ls ops bs = ts)
theorem agree : ∀ (l : List Str), l ≠ [] → ∀ (k : Nat) (ls : List (List Dt)) (ops : List (Str × Int)), ls.length = ops.length + 1 → (∀ o ∈ ops, 0 < o.2) → Agree k l ls ops
  | [], h, _, _, _, _, _ => (h rfl).elim
  | [x], _, k, ls, ops, hl, hp => by
    by_cases hx : x = Str.empty
    · match ops, ls, hl, hp with
      | [], [p], _, _ =>
        refine .inr ⟨by rw [fRun, if_pos hx, fRun], p, [[]], ?_, rfl, rfl, by simp [joinS]⟩
        rw [rowsOf, if_pos hx, rRun]
        rfl
      | o :: os, ls, _, hp =>
        refine .inl ⟨?_, ?_⟩
        · rw [fRun, if_pos hx, fRun]
          exact hp o (by simp)
        · rw [rowsOf, if_pos hx, rRun, fRun, if_pos hx, fRun]
    · refine .inl ⟨?_, ?_⟩
      · rw [fRun, if_neg hx]
        omega
      · rw [rowsOf, if_neg hx, rRun, fRun, if_neg hx]
  | x :: y :: r, _, k, ls, ops, hl, hp => by
    have IH := agree (y :: r) (by simp) (k + 1)
    have go : ∀ ls' ops', ls'.length = ops'.length + 1 → (∀ o ∈ ops', 0 < o.2) → rLine ((k + 1 : Nat) : Int) x ls ops = some (ls', ops') → fRun k (x :: y :: r) ops = fRun (k + 1) (y :: r) ops' →
        (∀ bs, bs.length = ls'.length → ∃ bs2, bStep x bs = some bs2 ∧ bs2.length = ls.length ∧ joinS ls ops bs2 = joinS ls' ops' bs) → Agree k (x :: y :: r) ls ops := by
      intro ls' ops' h1 h2 h3 h4 h5
      have er : rRun (k + 1) (rowsOf (x :: y :: r)) ls ops = rRun (k + 1 + 1) (rowsOf (y :: r)) ls' ops' := by
        rw [rowsOf, rRun, h3]
      rcases IH ls' ops' h1 h2 with ⟨i1, i2⟩ | ⟨i1, ts, bs, i2, i3, i4, i5⟩
      · exact .inl ⟨by rw [h4]; exact i1, by rw [er, h4]; exact i2⟩
      · obtain ⟨bs2, j1, j2, j3⟩ := h5 bs i4
        refine .inr ⟨by rw [h4]; exact i1, ts, bs2, by rw [er]; exact i2, ?_, j2, j3.trans i5⟩
        show (bRun (y :: r).dropLast).bind (bStep x) = some bs2
        rw [i3]
        exact j1
    have leaf : ¬ (x = "end" ∧ ops ≠ []) → ¬ x = "end" → (deedP x = true ∨ plainP x = true ∧ inAll ops = false) → openP x = false → fRun k (x :: y :: r) ops = fRun (k + 1) (y :: r) ops → Agree k (x :: y :: r) ls ops := by
      intro h1 h2 h3 h4 h5
      match ls, hl, go with
      | p :: r', hl, go =>
        refine go ((p ++ [.s x]) :: r') ops hl hp ?_ h5 fun bs hb => ?_
        · unfold rLine
          rw [if_neg h1, if_pos h3]
        · match bs, hb with
          | b :: bs, hb =>
            refine ⟨(.s x :: b) :: bs, ?_, hb, (join_mid (x := [Dt.s x])).symm⟩
            unfold bStep
            rw [if_neg h2, open_PL, if_neg (by rw [h4]; decide)]
    by_cases c1 : deedL x = true
    · have d := (deed_PL x).symm.trans c1
      have ne : ¬ x = "end" := fun e => by
        rw [e, end_deed] at d
        cases d
      exact leaf (fun z => ne z.1) ne (.inl d) (deed_open d) (by rw [fRun, if_pos c1])
    · have d : ¬ deedP x = true := fun e => c1 ((deed_PL x).trans e)
      by_cases c2 : x = "end" ∧ ops ≠ []
      · match ls, ops, hl, hp, c2, go with
        | [], [], _, _, c2, _ => exact (c2.2 rfl).elim
        | [_], [], _, _, c2, _ => exact (c2.2 rfl).elim
        | p :: q :: r', o :: os, hl, hp, c2, go =>
          refine go ((q ++ [.t [.s o.1, .l p]]) :: r') os (Nat.succ.inj hl) (fun u hu => hp u (List.mem_cons_of_mem _ hu)) ?_ ?_ fun bs hb => ?_
          · unfold rLine
            rw [if_pos c2]
          · rw [fRun, if_neg c1, if_pos c2]
            rfl
          · match bs, hb with
            | b :: bs, hb =>
              refine ⟨[] :: b :: bs, ?_, by rw [List.length_cons, hb]; rfl, ?_⟩
              · unfold bStep
                rw [if_pos c2.1]
              · rw [joinS, List.append_nil]
      · by_cases c3 : inAll ops = false ∧ ops.length < 4 ∧ openL x = true
        · have ho : openP x = true := (open_PL x).symm.trans c3.2.2
          have ne : ¬ x = "end" := fun e => by
            rw [e, end_open] at ho
            cases ho
          refine go ([] :: ls) ((x, ((k + 1 : Nat) : Int)) :: ops) (by rw [List.length_cons, List.length_cons, hl]) (fun u hu => ?_) ?_ ?_ fun bs hb => ?_
          · rcases List.mem_cons.mp hu with e | e
            · rw [e]
              show (0 : Int) < ((k + 1 : Nat) : Int)
              omega
            · exact hp u e
          · unfold rLine
            rw [if_neg c2, if_neg (fun z => z.elim d (fun z => by rw [open_plain ho] at z; cases z.1)), if_pos ⟨ho, c3.1, c3.2.1⟩]
          · rw [fRun, if_neg c1, if_neg c2, if_pos c3]
          · match ls, hl, bs, hb with
            | p :: r', _, b :: b2 :: bs, hb =>
              refine ⟨(.t [.s x, .l b] :: b2) :: bs, ?_, Nat.succ.inj hb, ?_⟩
              · unfold bStep
                rw [if_neg ne, if_pos c3.2.2]
              · rw [joinS, List.nil_append]
                exact (join_mid (x := [Dt.t [Dt.s x, Dt.l b]])).symm
            | p :: r', _, [_], hb => exact absurd hb (by simp)
            | p :: r', _, [], hb => exact absurd hb (by simp)
        · by_cases c4 : inAll ops = true ∨ plainL x = false
          · have ef : fRun k (x :: y :: r) ops = ((k + 1 : Nat) : Int) := by rw [fRun, if_neg c1, if_neg c2, if_neg c3, if_pos c4]
            refine .inl ⟨by rw [ef]; omega, ?_⟩
            have hn : rLine ((k + 1 : Nat) : Int) x ls ops = none := by
              unfold rLine
              rw [if_neg c2, if_neg, if_neg]
              · exact fun z => c3 ⟨z.2.1, z.2.2, (open_PL x).trans z.1⟩
              · refine fun z => z.elim d fun z => c4.elim (fun e => ?_) fun e => ?_
                · rw [z.2] at e
                  cases e
                · rw [plain_PL, z.1] at e
                  cases e
            rw [rowsOf, rRun, hn, ef]
          · have hp1 : plainP x = true := by
              have : ¬ plainL x = false := fun z => c4 (.inr z)
              rw [plain_PL] at this
              simpa using this
            have ha : inAll ops = false := by
              have : ¬ inAll ops = true := fun z => c4 (.inl z)
              simpa using this
            have ne : ¬ x = "end" := fun e => by
              rw [e, end_plain] at hp1
              cases hp1
            exact leaf c2 ne (.inr ⟨hp1, ha⟩) (plain_open hp1) (by rw [fRun, if_neg c1, if_neg c2, if_neg c3, if_neg c4])
/-! ### the depth of what is read -/
/-- a command: a line, or an opening with its list -/
def okC : Dt → Prop
  | .s _ => True
  | .t [.s _, .l p] => p.length ≤ 900000
  | _ => False
def Lvl : Nat → List (List Dt) → Prop
  | _, [] => True
  | b, p :: r => (∀ d ∈ p, okD b d ∧ okC d) ∧ Lvl (b + 2) r
theorem lvl_line {n : Int} {x : Str} {i b : Nat} {ls ls' : List (List Dt)} {ops ops' : List (Str × Int)} (h : rLine n x ls ops = some (ls', ops')) (hb : b + 2 * ops.length = 9) (hf : Fit i ls ops) (hi : i ≤ 900000) (hl : Lvl b ls) :
    ∃ b', b' + 2 * ops'.length = 9 ∧ Fit (i + 1) ls' ops' ∧ Lvl b' ls' := by
  unfold rLine at h
  have h4 := hf.2.2
  split at h
  · match ls, ops, h, hf, hl with
    | p :: q :: r, o :: os, h, hf, hl =>
      cases h
      refine ⟨b + 2, by rw [List.length_cons] at hb; omega, hf.close, fun d hd => ?_, hl.2.2⟩
      rcases List.mem_append.mp hd with e | e
      · exact hl.2.1 d e
      · rw [List.mem_singleton.mp e]
        refine ⟨⟨by simp, fun d hd => ?_⟩, Nat.le_trans (hf.1 p (by simp)) hi⟩
        rcases List.mem_cons.mp hd with e | e
        · rw [e]
          exact trivial
        · rw [List.mem_singleton.mp e]
          exact ⟨Nat.le_trans (hf.1 p (by simp)) hi, fun d hd => (hl.1 d hd).1⟩
    | [], _, h, _, _ => cases h
    | [_], [], h, _, _ => cases h
    | [_], _ :: _, h, _, _ => cases h
    | _ :: _ :: _, [], h, _, _ => cases h
  · split at h
    · match ls, h, hf, hl with
      | p :: r, h, hf, hl =>
        cases h
        refine ⟨b, hb, hf.leaf, fun d hd => ?_, hl.2⟩
        rcases List.mem_append.mp hd with e | e
        · exact hl.1 d e
        · rw [List.mem_singleton.mp e]
          obtain ⟨b', rfl⟩ : ∃ b', b = b' + 1 := ⟨b - 1, by omega⟩
          exact ⟨trivial, trivial⟩
    · split at h
      · rename_i c
        cases h
        refine ⟨b - 2, by rw [List.length_cons]; omega, hf.push c.2.2, ?_⟩
        show (∀ d ∈ ([] : List Dt), okD (b - 2) d ∧ okC d) ∧ Lvl (b - 2 + 2) ls
        rw [show b - 2 + 2 = b by omega]
        exact ⟨(fun d hd => by cases hd), hl⟩
      · cases h
theorem lvl_run : ∀ (rows : List (Str × Bool)) (n i b : Nat) (ls : List (List Dt)) (ops : List (Str × Int)) (ts : List Dt), rRun n rows ls ops = .ok ts → b + 2 * ops.length = 9 → Fit i ls ops → i + rows.length ≤ 900000 → Lvl b ls → ts.length ≤ 900000 ∧ ∀ d ∈ ts, okD 9 d ∧ okC d
  | [], n, i, b, ls, [], ts, h, hb, hf, hi, hl => by
    rw [rRun] at h
    cases h
    match ls, hf, hl with
    | [p], hf, hl =>
      have e : b = 9 := hb
      subst e
      exact ⟨Nat.le_trans (hf.1 p (by simp)) hi, hl.1⟩
  | [], n, i, b, ls, o :: os, ts, h, _, _, _, _ => by
    rw [rRun] at h
    cases h
  | (x, false) :: r, n, i, b, ls, ops, ts, h, _, _, _, _ => by
    rw [rRun] at h
    cases h
  | (x, true) :: r, n, i, b, ls, ops, ts, h, hb, hf, hi, hl => by
    rw [rRun] at h
    rw [List.length_cons] at hi
    cases e : rLine (n : Int) x ls ops with
    | none =>
      rw [e] at h
      cases h
    | some u =>
      obtain ⟨ls', ops'⟩ := u
      rw [e] at h
      obtain ⟨b', g1, g2, g3⟩ := lvl_line e hb hf (by omega) hl
      exact lvl_run r (n + 1) (i + 1) b' ls' ops' ts h g1 g2 (by omega) g3
/-- the whole -/
def wrongP (z : Str) : Int := fRun 0 (Txt.split z nl) []
theorem whole (z : Str) : (0 < wrongP z ∧ rRun 1 (rowsP z) [[]] [] = .error (wrongP z)) ∨ (¬ 0 < wrongP z ∧ ∃ ts, rRun 1 (rowsP z) [[]] [] = .ok ts ∧ bRun (Txt.split z nl).dropLast = some [ts]) := by
  have pos := split_pos z nl
  have hne : Txt.split z nl ≠ [] := fun e => by
    rw [e] at pos
    exact absurd pos (by decide)
  have er : rowsP z = rowsOf (Txt.split z nl) := (rowsOf_eq _ hne).symm
  rcases agree (Txt.split z nl) hne 0 [[]] [] rfl (fun o h => by cases h) with h | ⟨h1, ts, bs, h2, h3, h4, h5⟩
  · exact .inl ⟨h.1, by rw [er]; exact h.2⟩
  · refine .inr ⟨by unfold wrongP; omega, ts, by rw [er]; exact h2, ?_⟩
    rw [h3]
    match bs, h4, h5 with
    | [b], _, h5 =>
      have : b = ts := h5
      rw [this]
theorem read_fit {z : Str} (hz : z.length ≤ 800000) {ts : List Dt} (e : rRun 1 (rowsP z) [[]] [] = .ok ts) : ts.length ≤ 900000 ∧ ∀ d ∈ ts, okD 9 d ∧ okC d := by
  have many := rows_many z
  exact lvl_run (rowsP z) 1 0 9 [[]] [] ts e rfl ⟨fun p hp => by simp at hp; subst hp; exact Nat.le_refl _, rfl, by decide⟩ (by omega) (show (∀ d ∈ ([] : List Dt), okD 9 d ∧ okC d) ∧ True from ⟨(fun d hd => by cases hd), trivial⟩)
theorem fit_ok {ts : List Dt} (h : ts.length ≤ 900000 ∧ ∀ d ∈ ts, okD 9 d ∧ okC d) : okD 11 (.l [.i 0, .l ts]) := by
  refine ⟨by simp, fun d hd => ?_⟩
  rcases List.mem_cons.mp hd with e | e
  · rw [e]
    exact trivial
  · rw [List.mem_singleton.mp e]
    exact ⟨h.1, fun d hd => (h.2 d hd).1⟩
theorem err_ok {n : Int} : okD 11 (.l [.i n, .l [.b true]]) := by
  refine ⟨by simp, fun d hd => ?_⟩
  rcases List.mem_cons.mp hd with e | e
  · rw [e]
    exact trivial
  · rw [List.mem_singleton.mp e]
    refine ⟨by simp, fun d hd => ?_⟩
    rw [List.mem_singleton.mp hd]
    exact trivial
/-! ### a value is of one datum -/
theorem Is.one {H : Hp} {v : V} {d : Dt} (h : Is H v d) : ∀ d', Is H v d' → d = d' :=
  Is.rec (motive_1 := fun v d _ => ∀ d', Is H v d' → d = d') (motive_2 := fun vs ds _ => ∀ ds', IsL H vs ds' → ds = ds')
    (fun d' h => by cases h; rfl) (fun d' h => by cases h; rfl) (fun d' h => by cases h; rfl)
    (fun h1 _ ih d' h => by
      cases h with
      | l h2 h3 =>
        rw [h1] at h2
        cases h2
        rw [ih _ h3]
      | t h2 h3 =>
        rw [h1] at h2
        cases h2)
    (fun h1 _ ih d' h => by
      cases h with
      | l h2 h3 =>
        rw [h1] at h2
        cases h2
      | t h2 h3 =>
        rw [h1] at h2
        cases h2
        rw [ih _ h3])
    (fun d' h => by cases h; rfl)
    (fun _ _ i1 i2 d' h => by
      cases h with
      | cons h1 h2 => rw [i1 _ h1, i2 _ h2]) h
/-- the list of an opening among ts is not the list of ts -/
theorem not_self {H : Hp} {q : Addr} {p ts : List Dt} {o : Str} (h1 : Is H (.ref q) (.l ts)) (hm : Dt.t [.s o, .l p] ∈ ts) : ¬ Is H (.ref q) (.l p) := fun h2 => by
  have e := h1.one _ h2
  cases e
  have := List.sizeOf_lt_of_mem hm
  simp at this
  omega
theorem join_len {m : Nat} {sep : Str} : ∀ {xs : List Str}, Txs m xs → (Str.join sep xs).length ≤ xs.length * (m + sep.length)
  | [], _ => Nat.zero_le _
  | [x], h => by
    have := h x (by simp)
    show x.length ≤ 1 * (m + sep.length)
    omega
  | x :: y :: r, h => by
    have h1 := h x (by simp)
    have h2 := join_len (sep := sep) (xs := y :: r) (fun z hz => h z (List.mem_cons_of_mem _ hz))
    show ((x ++ sep) ++ Str.join sep (y :: r)).length ≤ _
    rw [Str.length_append, Str.length_append, List.length_cons, Nat.add_mul]
    omega
theorem join_lenT {m : Nat} {sep : Str} {xs : List Str} (h : Txs m xs) : (Txt.join sep xs).length ≤ xs.length * (m + sep.length) := by
  have e : Txt.join sep xs = Str.join sep xs := PySem.StrLaws.glued_eq_join sep xs
  rw [e]
  exact join_len h
theorem sum_len {m : Nat} : ∀ {xs : List Str}, Txs m xs → (xs.map (fun x => x.length)).sum ≤ xs.length * m
  | [], _ => Nat.zero_le _
  | x :: r, h => by
    have h1 := h x (by simp)
    have h2 := sum_len (xs := r) (fun z hz => h z (List.mem_cons_of_mem _ hz))
    rw [List.map_cons, List.sum_cons, List.length_cons, Nat.add_mul]
    omega
end K89

namespace K89
open PySem PySem.Spec PyProof.Rows L2 Lv
local macro_rules | `(tactic| walk_at "rd") => `(tactic| simp only [spTake, spCell0, spPool, spNames, spLines2, spSpoil, spWrong, spRd, spSame, spBack, r_seq, r_next, r_break, r_cont, r_asg, r_name, r_drop, r_ret, r_retN, r_if, r_var, r_c, r_op, r_un, r_test, r_B, r_and, r_or, r_not, r_andV, r_orV, r_notV, r_ifE, r_nil, r_cons, r_tup, r_lst, r_call, r_CB, r_BM, r_BM0, r_M1, r_M0, r_Sl, r_part, r_nopart, r_chain, r_I0, r_I, r_eq, r_ne, r_U, r_ixL, r_ixT, r_ixS, r_slL, r_slS, r_append, r_pop, r_sub, r_setL, r_cat, r_rep, r_in, r_strs, r_match, r_lc, r_for, r_iStr, r_iList, r_iTup, r_iRng1, r_iRng2, r_iEnumK, sign_inj, r_all, r_tStrs, r_gTup, r_gCons, r_gNil, wipe, cx_K, cx_N, cx_sc, r_stNil, st_start, List.set_cons_zero, List.set_cons_succ, List.getElem?_cons_zero, List.getElem?_cons_succ, Option.some.injEq, V.int.injEq, V.str.injEq, V.bl.injEq, V.ref.injEq, exists_eq_left', exists_eq_left, exists_eq', exists_and_left, true_and, and_true, exists_eq, exists_const, List.cons_append, List.nil_append, List.append_nil, List.cons.injEq, List.map_cons, List.map_nil, List.length_cons, List.length_nil, Nat.reduceAdd, Nat.reduceSub, List.replicate_succ, List.replicate_zero, Bool.not_eq_true', Bool.not_true, Bool.not_false, Bool.false_eq_true, if_true, if_false, ite_true, ite_false, decide_eq_true_eq, sc_ss, sc_ii, sc_bb, reduceCtorEq])
local macro_rules | `(tactic| walk_at "v") => `(tactic| refine ⟨_, rfl, ?_⟩)
local macro_rules | `(tactic| walk_at "sz") => `(tactic| first | exact Nat.le_trans (by assumption) (by decide) | exact Nat.zero_le _ | (rw [sizeLine_eq]; simp <;> omega) | omega)

def spLaw (K : PySem.W.Frag) : Sp := fun vs H Q _ => ∃ (a : Addr) (ns : List Int), vs = [.ref a] ∧ SqL K H a (ns.map V.int) ∧ ns.length ≤ 63 ∧ ∀ H', Q (.bl true) H'
section
variable {w : World} {K : PySem.W.Frag} {mg : Str → Option Value} {base : Heap}
theorem ok_law (T : Txt K mg) : FnOk Pg w K mg base CX0 16 T.a_law T.d_law ["script"] (spLaw K) := by
  have G__law_cell := ok__law_cell (w := w) (base := base) T
  have G__law_pool := ok__law_pool (w := w) (base := base) T
  have G__law_take := ok__law_take (w := w) (base := base) T
  have G__law_names := ok__law_names (w := w) (base := base) T
  have G__law_drawn_lines := ok__law_drawn_lines (w := w) (base := base) T
  have G__law_spoilt := ok__law_spoilt (w := w) (base := base) T
  have G__law_first_wrong := ok__law_first_wrong (w := w) (base := base) T
  have G__law_read := ok__law_read (w := w) (base := base) T
  have G__law_same := ok__law_same (w := w) (base := base) T 11
  have G__law_from_the_back := ok__law_from_the_back (w := w) (base := base) T
  refine T.f_law.ok sc_law (fun vs H Q E h => ?_) (fun cdv A outer s H vs Q E hr h => ?_)
  · obtain ⟨a, ns, rfl, _⟩ := h
    rfl
  · obtain ⟨a, ns, rfl, hS, hn, q⟩ := h
    refine ⟨_, (pss_cons (ps_set (i := 1) sc_law.nd rfl (Or.inl rfl) (pe_call G__law_pool (hr.mono (by omega)) (by rfl) T.g__law_pool T.f__law_pool.kp T.b__law_pool .nil pass0 (pa_cons (pe_call G__law_cell (hr.mono (by omega)) (by rfl) T.g__law_cell T.f__law_cell.kp T.b__law_cell .nil pass0 (pa_cons (pv 0) (pa_cons pe_int pa_nil))) pa_nil)))
  (pss_cons (ps_set (i := 2) sc_law.nd rfl (Or.inl rfl) (pe_call G__law_pool (hr.mono (by omega)) (by rfl) T.g__law_pool T.f__law_pool.kp T.b__law_pool .nil pass0 (pa_cons (pe_call G__law_cell (hr.mono (by omega)) (by rfl) T.g__law_cell T.f__law_cell.kp T.b__law_cell .nil pass0 (pa_cons (pv 0) (pa_cons pe_int pa_nil))) pa_nil)))
  (pss_cons (ps_set (i := 3) sc_law.nd rfl (Or.inl rfl) (pe_op op_cat (pe_call G__law_names (hr.mono (by omega)) (by rfl) T.g__law_names T.f__law_names.kp T.b__law_names .nil pass0 (pa_cons (pv 1) (pa_cons pe_int pa_nil))) (pe_lst (pa_cons pe_str (pa_cons pe_str (pa_cons pe_str pa_nil))))))
  (pss_cons (ps_set (i := 4) sc_law.nd rfl (Or.inl rfl) (pe_call G__law_drawn_lines (hr.mono (by omega)) (by rfl) T.g__law_drawn_lines T.f__law_drawn_lines.kp T.b__law_drawn_lines .nil pass0 (pa_cons (pv 1) (pa_cons (pv 3) pa_nil))))
  (Evl.pss_cut (ps_for PassesOwn.never rfl (pi_range1 (by rfl) T.z_range (pa_cons (pe_ix (r := rIxL K) ix_list (pe_lst (pa_cons pe_int (pa_cons pe_int (pa_cons pe_int (pa_cons pe_int (pa_cons pe_int (pa_cons pe_int pa_nil))))))) (pe_call G__law_take (hr.mono (by omega)) (by rfl) T.g__law_take T.f__law_take.kp T.b__law_take .nil pass0 (pa_cons (pv 2) (pa_cons pe_int pa_nil))) (fun _ _ => rfl)) pa_nil)) (pg_name (i := 5) sc_law.nd rfl (Or.inl rfl))
  (pss_one (ps_set (i := 4) sc_law.nd rfl (Or.inl rfl) (pe_call G__law_spoilt (hr.mono (by omega)) (by rfl) T.g__law_spoilt T.f__law_spoilt.kp T.b__law_spoilt .nil pass0 (pa_cons (pv 2) (pa_cons (pv 4) pa_nil))))))
  (Evl.pss_cut (ps_set (i := 6) sc_law.nd rfl (Or.inl rfl) (pe_join pe_str (pe_lc (own := [("line", 10)]) (g := gName 10) (tt := tYes) (by rfl) sc_law.nd (pi_list (pv 4)) (blkOk_by (own := [("line", 10)]) (N := ["script", "pool", "pool_here", "names", "lines", "k", "text", "wrong", "told", "command", "line"]) (sc := defScope s_law) (by decide +kernel)) (fun _ _ _ _ _ => (pg_name (i := 10) sc_law.nd rfl (Or.inl rfl))) (fun _ _ _ _ _ => pts_nil) (fun _ _ _ _ _ => (pe_op op_add_str (pv 10) pe_str)))))
  (Evl.pss_cut (ps_if (pt_cmpR op_eq (pe_call G__law_take (hr.mono (by omega)) (by rfl) T.g__law_take T.f__law_take.kp T.b__law_take .nil pass0 (pa_cons (pv 2) (pa_cons pe_int pa_nil))) pe_int (nomark _))
  (pss_one (ps_set (i := 6) sc_law.nd rfl (Or.inl rfl) (pe_slice sl_str (pv 6) po_none (po_some (pe_un un_neg pe_int)))))
  pss_nil)
  (pss_cons (ps_set (i := 7) sc_law.nd rfl (Or.inl rfl) (pe_call G__law_first_wrong (hr.mono (by omega)) (by rfl) T.g__law_first_wrong T.f__law_first_wrong.kp T.b__law_first_wrong .nil pass0 (pa_cons (pv 6) pa_nil)))
  (pss_cons (ps_set (i := 8) sc_law.nd rfl (Or.inl rfl) (pe_call G__law_read (hr.mono (by omega)) (by rfl) T.g__law_read T.f__law_read.kp T.b__law_read .nil pass0 (pa_cons (pv 6) pa_nil)))
  (Evl.pss_cut (ps_if (pt_cmpR op_gt (pv 7) pe_int (nomark _))
  (pss_one (ps_ret (pe_and (pe_call G__law_same (hr.mono (by omega)) (by rfl) T.g__law_same T.f__law_same.kp T.b__law_same .nil pass0 (pa_cons (pv 8) (pa_cons (pe_lst (pa_cons (pv 7) (pa_cons (pe_lst (pa_cons pe_bl pa_nil)) pa_nil))) pa_nil))) (pe_one (pe_call G__law_same (hr.mono (by omega)) (by rfl) T.g__law_same T.f__law_same.kp T.b__law_same .nil pass0 (pa_cons (pe_call G__law_read (hr.mono (by omega)) (by rfl) T.g__law_read T.f__law_read.kp T.b__law_read .nil pass0 (pa_cons (pv 6) pa_nil)) (pa_cons (pe_lst (pa_cons (pv 7) (pa_cons (pe_lst (pa_cons pe_bl pa_nil)) pa_nil))) pa_nil)))))))
  pss_nil)
  (Evl.pss_cut (ps_if (pt_not (pt_val (pe_call G__law_same (hr.mono (by omega)) (by rfl) T.g__law_same T.f__law_same.kp T.b__law_same .nil pass0 (pa_cons (pv 8) (pa_cons (pe_lst (pa_cons pe_int (pa_cons (pe_call G__law_from_the_back (hr.mono (by omega)) (by rfl) T.g__law_from_the_back T.f__law_from_the_back.kp T.b__law_from_the_back .nil pass0 (pa_cons (pv 6) pa_nil)) pa_nil))) pa_nil)))))
  (pss_one (ps_ret pe_bl))
  pss_nil)
  (Evl.pss_cut (ps_expr (pe_bm PySem.F.plainAttrs_list PySem.F.slot_list_append PySem.F.type_list_append mt_append (pe_ix (r := rIxL K) ix_list (pv 8) pe_int (fun _ _ => rfl)) (pa_cons pe_str pa_nil)))
  (Evl.pss_cut (ps_for PassesOwn.never rfl (pi_list (pe_ix (r := rIxL K) ix_list (pv 8) pe_int (fun _ _ => rfl))) (pg_name (i := 9) sc_law.nd rfl (Or.inl rfl))
  (pss_one (ps_if (pt_val (pe_callB call_isi (by rfl) T.z_isinstance (by decide +kernel) (pa_cons (pv 9) (pa_cons (pe_bltn (v := .ty "tuple") rfl T.z_tuple (by decide +kernel) rfl) pa_nil))))
  (pss_one (ps_expr (pe_bm PySem.F.plainAttrs_list PySem.F.slot_list_append PySem.F.type_list_append mt_append (pe_ix (r := rIxT K) ix_tup (pv 9) pe_int (fun _ _ => rfl)) (pa_cons pe_str pa_nil))))
  pss_nil)))
  (pss_one (ps_ret (pe_call G__law_same (hr.mono (by omega)) (by rfl) T.g__law_same T.f__law_same.kp T.b__law_same .nil pass0 (pa_cons (pe_call G__law_read (hr.mono (by omega)) (by rfl) T.g__law_read T.f__law_read.kp T.b__law_read .nil pass0 (pa_cons (pv 6) pa_nil)) (pa_cons (pe_lst (pa_cons pe_int (pa_cons (pe_call G__law_from_the_back (hr.mono (by omega)) (by rfl) T.g__law_from_the_back T.f__law_from_the_back.kp T.b__law_from_the_back .nil pass0 (pa_cons (pv 6) pa_nil)) pa_nil))) pa_nil)))))))))))))))))), ?_⟩
    walk_at "rd"
    refine ⟨a, ns, 0, ⟨rfl, rfl⟩, hS, hn, fun c1 p1 x1 y1 z1 hp1 => ⟨a, ns, 1, ⟨rfl, rfl⟩, Evl.ex_l (Evl.Ex.new hp1) hS, hn, fun c2 p2 x2 y2 z2 hp2 => ?_⟩⟩
    have po1 : PoolAt (upd (upd H p1 (.lst [.int x1, .int y1, .int z1])) p2 (.lst [.int x2, .int y2, .int z2])) p1 := ⟨_, Evl.Ex.new hp2 _ _ upd_same, x1, y1, z1, rfl⟩
    have po2 : PoolAt (upd (upd H p1 (.lst [.int x1, .int y1, .int z1])) p2 (.lst [.int x2, .int y2, .int z2])) p2 := ⟨_, upd_same, x2, y2, z2, rfl⟩
    generalize upd (upd H p1 (.lst [.int x1, .int y1, .int z1])) p2 (.lst [.int x2, .int y2, .int z2]) = H1 at *
    refine ⟨p1, 5, ⟨rfl, rfl⟩, po1, by decide, fun H2 nm zs k2 _ hnm hzl hzt => ⟨by rw [sizeLine_eq]; decide, fun b hb => ⟨_, Evl.Ex.new hb _ _ hnm, _, upd_same, by rw [List.length_map, hzl, sizeLine_eq]; decide, fun c hc => ?_⟩⟩⟩
    have es : zs.map V.str ++ [V.str (Str.ofString "street"), V.str (Str.ofString "end"), V.str (Str.ofString "all")] = (zs ++ [Str.ofString "street", Str.ofString "end", Str.ofString "all"]).map V.str := by rw [List.map_append]; rfl
    rw [es]
    have tz : Txs 10 (zs ++ [Str.ofString "street", Str.ofString "end", Str.ofString "all"]) := hzt.app (Txs.of (by decide +kernel))
    have lz : (zs ++ [Str.ofString "street", Str.ofString "end", Str.ofString "all"]).length = 8 := by rw [List.length_append, hzl]; rfl
    generalize zs ++ [Str.ofString "street", Str.ofString "end", Str.ofString "all"] = ws at *
    have k3 := k2.trans ((Kp.new hb).trans (Kp.new (o := .lst (ws.map V.str)) hc))
    refine ⟨p1, c, ⟨rfl, rfl⟩, k3.pool po1, ws, SqL.of upd_same, tz, by omega, by omega, fun L us H3 hL hul hut k4 => ?_⟩
    have k4 := k3.trans k4
    have po2 := k4.pool po2
    clear k2 hnm hzl hzt hb hc es tz lz k3 k4 po1
    -- the lines, spoilt
    obtain ⟨Mid, hMid⟩ := opq2 fun (σ : L2.St) (G : Hp) => ∃ (L : Addr) (us : List Str) (k : Option V), σ = [some (.ref a), some (.ref p1), some (.ref p2), some (.ref c), some (.ref L), k, none, none, none, none, none] ∧ PoolAt G p2 ∧ G L = some (.lst (us.map V.str)) ∧ us.length ≤ 66 ∧ Txs 4003 us
    refine ⟨Mid, ?_, fun σ G hm => ?_⟩
    · walk_at "rd"
      refine ⟨by rw [sizeLine_eq]; decide, fun b hb => ⟨p2, 6, ⟨rfl, rfl⟩, (Kp.new hb).pool po2, by decide, by decide, fun r G hr1 k5 => ?_⟩⟩
      obtain ⟨js, hjs⟩ : ∃ js : List Nat, js = [0, 0, 1, 1, 2, 3] := ⟨_, rfl⟩
      have hr6 : r < js.length := by rw [hjs]; exact hr1
      have hj3 : js[r] ≤ 3 := by
        have : js.all (fun j => decide (j ≤ 3)) = true := by rw [hjs]; decide
        exact of_decide_eq_true (List.all_eq_true.mp this _ (List.getElem_mem hr6))
      refine ⟨js.map (fun (j : Nat) => V.int (j : Int)), SqL.of (k5.get (by rw [hjs]; exact upd_same) (np_len (by rw [hjs]; decide))), .int (js[r] : Nat), ati (j := r) rfl (by rw [List.getElem?_map, List.getElem?_eq_getElem hr6]; rfl), _, rfl, by omega, by omega, ?_⟩
      generalize js[r] = jj at *
      have k5 := (Kp.new (o := .lst [.int 0, .int 0, .int 1, .int 1, .int 2, .int 3]) hb).trans k5
      have hL5 := k5.get hL np_strs
      have po5 := k5.pool po2
      obtain ⟨Pv, hPv⟩ := opq3 fun (i : Nat) (σ : L2.St) (G : Hp) => ∃ (L : Addr) (us : List Str) (k : Option V), σ = [some (.ref a), some (.ref p1), some (.ref p2), some (.ref c), some (.ref L), k, none, none, none, none, none] ∧ PoolAt G p2 ∧ G L = some (.lst (us.map V.str)) ∧ us.length ≤ 30 + 12 * i ∧ Txs (4000 + i) us
      refine f_range Pv ((hPv _ _ _).mpr ⟨L, us, none, rfl, po5, hL5, hul, hut⟩) (fun i σ G hi pv => ?_) (fun σ G pv => ?_)
      · obtain ⟨L, us, kk, rfl, po6, hL6, hul6, hut6⟩ := (hPv _ _ _).mp pv
        walk_at "rd"
        refine ⟨p2, L, ⟨rfl, rfl⟩, po6, us, hL6, hut6.up (by omega), by omega, fun L2 us2 G2 hL7 hul7 hut7 k7 => (hPv _ _ _).mpr ⟨L2, us2, _, rfl, k7.pool po6, hL7, by omega, ?_⟩⟩
        exact hut7 (4000 + i) hut6 (by omega)
      · obtain ⟨L, us, kk, rfl, po6, hL6, hul6, hut6⟩ := (hPv _ _ _).mp pv
        exact (hMid _ _).mpr ⟨L, us, kk, rfl, po6, hL6, by omega, hut6.up (by omega)⟩
    obtain ⟨L, us, kk, rfl, po2, hL, hul, hut⟩ := (hMid _ _).mp hm
    -- the text
    obtain ⟨Mid2, hMid2⟩ := opq2 fun (σ : L2.St) (G : Hp) => ∃ (z : Str) (x10 : Option V), σ = [some (.ref a), some (.ref p1), some (.ref p2), some (.ref c), some (.ref L), kk, some (.str z), none, none, none, x10] ∧ z.length ≤ 800000 ∧ PoolAt G p2
    refine ⟨Mid2, ?_, fun σ G hm => ?_⟩
    · walk_at "rd"
      have l1 : (Str.ofString "\n").length = 1 := by decide +kernel
      refine ⟨⟨_, SqL.of hL⟩, lc_listE (xs := us.map V.str) (fun i => V.str (us.getD i Str.empty ++ Str.ofString "\n")) (SqL.of hL) (by rw [List.length_map]; omega) (fun _ => rfl) (fun i x H1 e1 hx QQ qq => ?_) (fun D H1 hD e1 hD1 => ?_)⟩
      · rw [List.getElem?_map] at hx
        cases e : us[i]? with
        | none => rw [e] at hx; cases hx
        | some u =>
          rw [e] at hx
          cases hx
          have hu := hut u (List.mem_of_getElem? e)
          have eg : us.getD i Str.empty = u := by rw [List.getD_eq_getElem?_getD, e]; rfl
          walk_at "rd"
          refine ⟨szl (by omega), ?_⟩
          have := qq H1 (Same.refl _)
          rw [eg] at this
          exact this
      · have eu : (List.range (us.map V.str).length).map (fun i => V.str (us.getD i Str.empty ++ Str.ofString "\n")) = (us.map (fun u => u ++ Str.ofString "\n")).map V.str := by
          rw [List.length_map]
          apply List.ext_getElem
          · simp
          · intro i h1 h2
            simp only [List.length_map] at h2
            simp [List.getD_eq_getElem?_getD, List.getElem?_eq_getElem h2]
        rw [eu] at hD1
        have tx : Txs 4004 (us.map (fun u => u ++ Str.ofString "\n")) := fun z hz => by
          obtain ⟨u, hu, rfl⟩ := List.mem_map.mp hz
          have := hut u hu
          rw [Str.length_append]
          omega
        have s1 := sum_len tx
        have s2 := join_lenT (sep := Str.ofString "") tx
        have l0 : (Str.ofString "").length = 0 := by decide +kernel
        rw [List.length_map] at s1 s2
        rw [l0] at s2
        have b1 : us.length * 4004 ≤ 66 * 4004 := Nat.mul_le_mul_right _ hul
        have b2 : us.length * (4004 + 0) ≤ 66 * 4004 := Nat.mul_le_mul_right _ hul
        refine ⟨D, rfl, _, .inl (SqL.of hD1), ?_, (hMid2 _ _).mpr ⟨_, none, rfl, by omega, (Kp.of e1).pool po2⟩⟩
        rw [l0]
        omega
    obtain ⟨z, x10, rfl, hz, po2⟩ := (hMid2 _ _).mp hm
    refine ⟨Mid2, ?_, fun σ G hm => ?_⟩
    · walk_at "rd"
      refine ⟨p2, 12, ⟨rfl, rfl⟩, po2, by decide, by decide, fun r G hr1 k5 => ite2 (fun _ => ⟨szl (by omega), (hMid2 _ _).mpr ⟨_, _, rfl, Nat.le_trans (cutS_length _ _ _) hz, k5.pool po2⟩⟩) (fun _ => (hMid2 _ _).mpr ⟨_, _, rfl, hz, k5.pool po2⟩)⟩
    obtain ⟨z, x10, rfl, hz, _⟩ := (hMid2 _ _).mp hm
    walk_at "rd"
    clear hMid2 hm
    refine ⟨hz, fun H4 s4 => ⟨hz, fun H5 told s5 htold => ?_⟩⟩
    have ew : fRun 0 (Txt.split z nl) [] = wrongP z := rfl
    rw [ew]
    obtain ⟨Mid3, hMid3⟩ := opq2 fun (σ : L2.St) (G : Hp) => ¬ 0 < wrongP z ∧ σ = [some (.ref a), some (.ref p1), some (.ref p2), some (.ref c), some (.ref L), kk, some (.str z), some (.int (wrongP z)), some told, none, x10] ∧ Is G told (readD z)
    refine ⟨Mid3, ?_, fun σ G hm => ?_⟩
    · walk_at "rd"
      refine ite2 (fun hw => ?_) (fun hw => (hMid3 _ _).mpr ⟨hw, rfl, htold⟩)
      have e1 : rRun 1 (rowsP z) [[]] [] = .error (wrongP z) := (whole z).elim (fun h => h.2) (fun h => (h.1 hw).elim)
      have eR : readD z = .l [.i (wrongP z), .l [.b true]] := by unfold readD; rw [e1]
      rw [eR] at htold ⊢
      refine ⟨by rw [sizeLine_eq]; decide, fun x hx => ⟨by rw [sizeLine_eq]; decide, fun y hy => ⟨told, .ref y, ⟨rfl, rfl⟩, _, htold.ex ((Evl.Ex.new hx).trans (Evl.Ex.new hy)), .l upd_same (.cons .i (.cons (.l (Evl.Ex.new hy _ _ upd_same) (.cons .b .nil)) .nil)), err_ok, fun H6 s6 => ⟨hz, fun H7 v s7 hv => ?_⟩⟩⟩⟩
      exact ⟨by rw [sizeLine_eq]; decide, fun x hx => ⟨by rw [sizeLine_eq]; decide, fun y hy => ⟨v, .ref y, ⟨rfl, rfl⟩, _, hv.ex ((Evl.Ex.new hx).trans (Evl.Ex.new hy)), .l upd_same (.cons .i (.cons (.l (Evl.Ex.new hy _ _ upd_same) (.cons .b .nil)) .nil)), err_ok, fun H6 s6 => q H6⟩⟩⟩
    obtain ⟨hw, rfl, hG⟩ := (hMid3 _ _).mp hm
    obtain ⟨ts, e1, e2⟩ : ∃ ts, rRun 1 (rowsP z) [[]] [] = .ok ts ∧ bRun (Txt.split z nl).dropLast = some [ts] := (whole z).elim (fun h => (hw h.1).elim) (fun h => h.2)
    have hfit := read_fit hz e1
    have eR : readD z = .l [.i 0, .l ts] := by unfold readD; rw [e1]
    rw [eR] at hG
    refine ⟨Mid3, ?_, fun σ G2 hm => ?_⟩
    · walk_at "rd"
      exact ⟨hz, ts, e2, fun H6 y s6 hy => ⟨by rw [sizeLine_eq]; decide, fun x hx => ⟨told, .ref x, ⟨rfl, rfl⟩, _, hG.ex (s6.trans (Evl.Ex.new hx)), .l upd_same (.cons .i (.cons (hy.ex (Evl.Ex.new hx)) .nil)), fit_ok hfit, fun H7 s7 => (hMid3 _ _).mpr ⟨hw, rfl, by rw [eR]; exact (hG.ex (s6.trans (Evl.Ex.new hx))).ex s7⟩⟩⟩⟩
    obtain ⟨_, rfl, hG⟩ := (hMid3 _ _).mp hm
    rw [eR] at hG
    obtain ⟨b, vs, rfl, hb, hvs⟩ := hG.un_l
    obtain ⟨v1, vs, rfl, hv1, hvs⟩ := hvs.uncons
    obtain ⟨v2, vs, rfl, hv2, hvs⟩ := hvs.uncons
    cases hvs.un0
    obtain ⟨qa, qs, rfl, hq, hqs⟩ := hv2.un_l
    cases hv1
    have lq := hqs.len
    have fl := hfit.1
    have qb : b ≠ qa := fun z => by
      subst z
      rw [hb] at hq
      cases hq
      obtain ⟨d, hd, hi⟩ := hqs.at 0 (v := .int 0) rfl
      cases hi
      exact (hfit.2 _ (List.mem_of_getElem? hd)).2
    obtain ⟨Mid4, hMid4⟩ := opq2 fun (σ : L2.St) (G : Hp) => σ = [some (.ref a), some (.ref p1), some (.ref p2), some (.ref c), some (.ref L), kk, some (.str z), some (.int (wrongP z)), some (.ref b), none, x10] ∧ upd G2 qa (.lst (qs ++ [.str (Str.ofString "undo")])) = G
    refine ⟨Mid4, ?_, fun σ G3 hm => ?_⟩
    · walk_at "rd"
      exact ⟨_, SqL.of hb, .ref qa, at1, .inl ⟨rfl, _, SqL.of hq⟩, qa, rfl, _, hq, by rw [sizeLine_eq]; omega, (hMid4 _ _).mpr ⟨rfl, rfl⟩⟩
    obtain ⟨rfl, rfl⟩ := (hMid4 _ _).mp hm
    obtain ⟨Mid5, hMid5⟩ := opq2 fun (σ : L2.St) (G : Hp) => ∃ x9, σ = [some (.ref a), some (.ref p1), some (.ref p2), some (.ref c), some (.ref L), kk, some (.str z), some (.int (wrongP z)), some (.ref b), x9, x10]
    refine ⟨Mid5, ?_, fun σ G hm => ?_⟩
    · walk_at "rd"
      have hb3 : upd G2 qa (.lst (qs ++ [.str (Str.ofString "undo")])) b = some (.lst [.int 0, .ref qa]) := by rw [upd_ne qb]; exact hb
      refine ⟨_, SqL.of hb3, .ref qa, at1, qa, rfl, ⟨_, SqL.of upd_same⟩, ?_⟩
      obtain ⟨Pv, hPv⟩ := opq3 fun (i : Nat) (σ : L2.St) (G : Hp) => (∃ x9, σ = [some (.ref a), some (.ref p1), some (.ref p2), some (.ref c), some (.ref L), kk, some (.str z), some (.int (wrongP z)), some (.ref b), x9, x10]) ∧ G qa = some (.lst (qs ++ [.str (Str.ofString "undo")])) ∧
        (∀ x u, G2 x = some (.tup u) → G x = some (.tup u)) ∧ (∀ x cs, G2 x = some (.lst cs) → x ≠ qa → ∃ cs', G x = some (.lst cs') ∧ cs'.length ≤ cs.length + i)
      refine f_list (xs := qs ++ [.str (Str.ofString "undo")]) Pv ((hPv _ _ _).mpr ⟨⟨none, rfl⟩, upd_same, fun x u h => ?_, fun x cs h hx => ⟨cs, by rw [upd_ne hx]; exact h, Nat.le_refl _⟩⟩) (fun i σ G _ pv => ?_) (fun i x σ G hi pv => ?_) (fun σ G pv => ?_)
      · have : x ≠ qa := fun z => by
          subst z
          rw [hq] at h
          cases h
        rw [upd_ne this]
        exact h
      · obtain ⟨_, h, _⟩ := (hPv _ _ _).mp pv
        exact SqL.of h
      · obtain ⟨⟨x9, rfl⟩, i1, i2, i3⟩ := (hPv _ _ _).mp pv
        have hil := (List.getElem?_eq_some_iff.mp hi).1
        rw [List.length_append, List.length_singleton] at hil
        walk_at "rd"
        have skip : ∀ (A : Hp → Prop) (y : Str), x = .str y → rIsi K [x, V.ty "tuple"] G fun x_1 H' => ∃ k, x_1 = V.bl k ∧ if k = true then A H' else Pv (i + 1) [some (.ref a), some (.ref p1), some (.ref p2), some (.ref c), some (.ref L), kk, some (.str z), some (.int (wrongP z)), some (.ref b), some x, x10] H' := fun A y e => by
          subst e
          exact isiT (.base (.str y)) rfl ⟨_, rfl, no1 ((hPv _ _ _).mpr ⟨⟨_, rfl⟩, i1, i2, fun x cs h hx => (i3 x cs h hx).elim fun cs' h => ⟨cs', h.1, by omega⟩⟩)⟩
        by_cases hlt : i < qs.length
        · rw [List.getElem?_append_left hlt] at hi
          obtain ⟨d, hd, hx⟩ := hqs.at i hi
          have hc := (hfit.2 d (List.mem_of_getElem? hd)).2
          match d, hx, hc, hd with
          | .s y, hx, _, _ =>
            cases hx
            exact skip _ y rfl
          | .t [.s o, .l pp], hx, hc, hd =>
            obtain ⟨tt, us, rfl, ht, hus⟩ := hx.un_t
            obtain ⟨u1, us, rfl, hu1, hus⟩ := hus.uncons
            obtain ⟨u2, us, rfl, hu2, hus⟩ := hus.uncons
            cases hus.un0
            cases hu1
            obtain ⟨cc, cs, rfl, hcc, hcs⟩ := hu2.un_l
            have ncq : cc ≠ qa := fun z => by
              subst z
              exact not_self (.l hq hqs) (List.mem_of_getElem? hd) hu2
            obtain ⟨cs', j1, j2⟩ := i3 cc cs hcc ncq
            have lc := hcs.len
            have hc : pp.length ≤ 900000 := hc
            refine isiT (.base (.tup (i2 _ _ ht))) rfl ⟨_, rfl, yes1 ⟨tt, rfl, _, SqT.of (i2 _ _ ht), .ref cc, at1, .inl ⟨rfl, _, SqL.of j1⟩, cc, rfl, cs', j1, ?_, (hPv _ _ _).mpr ⟨⟨_, rfl⟩, ?_, fun x u h => ?_, fun x ws h hx => ?_⟩⟩⟩
            · rw [sizeLine_eq]
              omega
            · rw [upd_ne ncq.symm]
              exact i1
            · have : x ≠ cc := fun z => by
                subst z
                rw [hcc] at h
                cases h
              rw [upd_ne this]
              exact i2 x u h
            · by_cases hxc : x = cc
              · subst hxc
                rw [hcc] at h
                cases h
                exact ⟨_, upd_same, by rw [List.length_append, List.length_singleton]; omega⟩
              · obtain ⟨ws', g1, g2⟩ := i3 x ws h hx
                exact ⟨ws', by rw [upd_ne hxc]; exact g1, by omega⟩
        · rw [List.getElem?_append_right (by omega)] at hi
          have e0 : i - qs.length = 0 := by omega
          rw [e0] at hi
          exact skip _ _ (Option.some.inj hi).symm
      · obtain ⟨⟨x9, rfl⟩, _⟩ := (hPv _ _ _).mp pv
        exact (hMid5 _ _).mpr ⟨_, rfl⟩
    obtain ⟨x9, rfl⟩ := (hMid5 _ _).mp hm
    walk_at "rd"
    rw [eR]
    exact ⟨hz, fun H6 v s6 hv => ⟨hz, ts, e2, fun H7 y s7 hy => ⟨by rw [sizeLine_eq]; decide, fun x hx => ⟨v, .ref x, ⟨rfl, rfl⟩, _, hv.ex (s7.trans (Evl.Ex.new hx)), .l upd_same (.cons .i (.cons (hy.ex (Evl.Ex.new hx)) .nil)), fit_ok hfit, fun H8 s8 => q H8⟩⟩⟩⟩
end
end K89

namespace K89
open PySem PySem.Spec PyProof.Rows L2 Lv
theorem all_mk {w : World} {K : PySem.W.Frag} {h : Heap} {mg : Str → Option Value} {fa : Addr} (X : K.In h) (G : h.Ns mainGlobals mg) (hfa : mg "law" = some (.ref fa))
    {f_is_name : Addr} {od_is_name an_is_name : Option Addr} {sl_is_name : Array (Option Value)} {oc_is_name kV_is_name dc_is_name pm_is_name cd_is_name ct_is_name : Value}
    {f_is_place : Addr} {od_is_place an_is_place : Option Addr} {sl_is_place : Array (Option Value)} {oc_is_place kV_is_place dc_is_place pm_is_place cd_is_place ct_is_place : Value}
    {f_is_number : Addr} {od_is_number an_is_number : Option Addr} {sl_is_number : Array (Option Value)} {oc_is_number kV_is_number dc_is_number pm_is_number cd_is_number ct_is_number : Value}
    {f_lines_of : Addr} {od_lines_of an_lines_of : Option Addr} {sl_lines_of : Array (Option Value)} {oc_lines_of kV_lines_of dc_lines_of pm_lines_of cd_lines_of ct_lines_of : Value}
    {f_is_deed : Addr} {od_is_deed an_is_deed : Option Addr} {sl_is_deed : Array (Option Value)} {oc_is_deed kV_is_deed dc_is_deed pm_is_deed cd_is_deed ct_is_deed : Value}
    {f_is_plain : Addr} {od_is_plain an_is_plain : Option Addr} {sl_is_plain : Array (Option Value)} {oc_is_plain kV_is_plain dc_is_plain pm_is_plain cd_is_plain ct_is_plain : Value}
    {f_is_again : Addr} {od_is_again an_is_again : Option Addr} {sl_is_again : Array (Option Value)} {oc_is_again kV_is_again dc_is_again pm_is_again cd_is_again ct_is_again : Value}
    {f_is_opening : Addr} {od_is_opening an_is_opening : Option Addr} {sl_is_opening : Array (Option Value)} {oc_is_opening kV_is_opening dc_is_opening pm_is_opening cd_is_opening ct_is_opening : Value}
    {f_read_script : Addr} {od_read_script an_read_script : Option Addr} {sl_read_script : Array (Option Value)} {oc_read_script kV_read_script dc_read_script pm_read_script cd_read_script ct_read_script : Value}
    {f__law_cell : Addr} {od__law_cell an__law_cell : Option Addr} {sl__law_cell : Array (Option Value)} {oc__law_cell kV__law_cell dc__law_cell pm__law_cell cd__law_cell ct__law_cell : Value}
    {f__law_pool : Addr} {od__law_pool an__law_pool : Option Addr} {sl__law_pool : Array (Option Value)} {oc__law_pool kV__law_pool dc__law_pool pm__law_pool cd__law_pool ct__law_pool : Value}
    {f__law_take : Addr} {od__law_take an__law_take : Option Addr} {sl__law_take : Array (Option Value)} {oc__law_take kV__law_take dc__law_take pm__law_take cd__law_take ct__law_take : Value}
    {f__law_names : Addr} {od__law_names an__law_names : Option Addr} {sl__law_names : Array (Option Value)} {oc__law_names kV__law_names dc__law_names pm__law_names cd__law_names ct__law_names : Value}
    {f__law_same : Addr} {od__law_same an__law_same : Option Addr} {sl__law_same : Array (Option Value)} {oc__law_same kV__law_same dc__law_same pm__law_same cd__law_same ct__law_same : Value}
    {f__law_number : Addr} {od__law_number an__law_number : Option Addr} {sl__law_number : Array (Option Value)} {oc__law_number kV__law_number dc__law_number pm__law_number cd__law_number ct__law_number : Value}
    {f__law_deed_line : Addr} {od__law_deed_line an__law_deed_line : Option Addr} {sl__law_deed_line : Array (Option Value)} {oc__law_deed_line kV__law_deed_line dc__law_deed_line pm__law_deed_line cd__law_deed_line ct__law_deed_line : Value}
    {f__law_plain_line : Addr} {od__law_plain_line an__law_plain_line : Option Addr} {sl__law_plain_line : Array (Option Value)} {oc__law_plain_line kV__law_plain_line dc__law_plain_line pm__law_plain_line cd__law_plain_line ct__law_plain_line : Value}
    {f__law_opening_line : Addr} {od__law_opening_line an__law_opening_line : Option Addr} {sl__law_opening_line : Array (Option Value)} {oc__law_opening_line kV__law_opening_line dc__law_opening_line pm__law_opening_line cd__law_opening_line ct__law_opening_line : Value}
    {f__law_drawn_lines : Addr} {od__law_drawn_lines an__law_drawn_lines : Option Addr} {sl__law_drawn_lines : Array (Option Value)} {oc__law_drawn_lines kV__law_drawn_lines dc__law_drawn_lines pm__law_drawn_lines cd__law_drawn_lines ct__law_drawn_lines : Value}
    {f__law_odd_line : Addr} {od__law_odd_line an__law_odd_line : Option Addr} {sl__law_odd_line : Array (Option Value)} {oc__law_odd_line kV__law_odd_line dc__law_odd_line pm__law_odd_line cd__law_odd_line ct__law_odd_line : Value}
    {f__law_spoilt : Addr} {od__law_spoilt an__law_spoilt : Option Addr} {sl__law_spoilt : Array (Option Value)} {oc__law_spoilt kV__law_spoilt dc__law_spoilt pm__law_spoilt cd__law_spoilt ct__law_spoilt : Value}
    {f__law_is_place : Addr} {od__law_is_place an__law_is_place : Option Addr} {sl__law_is_place : Array (Option Value)} {oc__law_is_place kV__law_is_place dc__law_is_place pm__law_is_place cd__law_is_place ct__law_is_place : Value}
    {f__law_is_count : Addr} {od__law_is_count an__law_is_count : Option Addr} {sl__law_is_count : Array (Option Value)} {oc__law_is_count kV__law_is_count dc__law_is_count pm__law_is_count cd__law_is_count ct__law_is_count : Value}
    {f__law_is_deed : Addr} {od__law_is_deed an__law_is_deed : Option Addr} {sl__law_is_deed : Array (Option Value)} {oc__law_is_deed kV__law_is_deed dc__law_is_deed pm__law_is_deed cd__law_is_deed ct__law_is_deed : Value}
    {f__law_is_plain : Addr} {od__law_is_plain an__law_is_plain : Option Addr} {sl__law_is_plain : Array (Option Value)} {oc__law_is_plain kV__law_is_plain dc__law_is_plain pm__law_is_plain cd__law_is_plain ct__law_is_plain : Value}
    {f__law_is_opening : Addr} {od__law_is_opening an__law_is_opening : Option Addr} {sl__law_is_opening : Array (Option Value)} {oc__law_is_opening kV__law_is_opening dc__law_is_opening pm__law_is_opening cd__law_is_opening ct__law_is_opening : Value}
    {f__law_first_wrong : Addr} {od__law_first_wrong an__law_first_wrong : Option Addr} {sl__law_first_wrong : Array (Option Value)} {oc__law_first_wrong kV__law_first_wrong dc__law_first_wrong pm__law_first_wrong cd__law_first_wrong ct__law_first_wrong : Value}
    {f__law_from_the_back : Addr} {od__law_from_the_back an__law_from_the_back : Option Addr} {sl__law_from_the_back : Array (Option Value)} {oc__law_from_the_back kV__law_from_the_back dc__law_from_the_back pm__law_from_the_back cd__law_from_the_back ct__law_from_the_back : Value}
    {f__law_read : Addr} {od__law_read an__law_read : Option Addr} {sl__law_read : Array (Option Value)} {oc__law_read kV__law_read dc__law_read pm__law_read cd__law_read ct__law_read : Value}
    {f_law : Addr} {od_law an_law : Option Addr} {sl_law : Array (Option Value)} {oc_law kV_law dc_law pm_law cd_law ct_law : Value}
    {t_LETTERS : Tok}
    {t_DIGITS : Tok}
    {t_STREET : Tok}
    {t_LONGEST_NAME : Tok}
    {t_LONGEST_NUMBER : Tok}
    {t_MOST_DEEP : Tok}
    {t_ALL : Tok}
    {t_END : Tok}
    {u_VERDICTS : Addr} {ud_VERDICTS : Option Addr} {un_VERDICTS : Nat} {us_VERDICTS : Array (Option Value)} {t_VERDICTS_0 t_VERDICTS_1 t_VERDICTS_2 t_VERDICTS_3 : Tok}
    {u_MOVES : Addr} {ud_MOVES : Option Addr} {un_MOVES : Nat} {us_MOVES : Array (Option Value)} {t_MOVES_0 t_MOVES_1 t_MOVES_2 t_MOVES_3 t_MOVES_4 t_MOVES_5 : Tok}
    {u_QUESTIONS : Addr} {ud_QUESTIONS : Option Addr} {un_QUESTIONS : Nat} {us_QUESTIONS : Array (Option Value)} {t_QUESTIONS_0 t_QUESTIONS_1 t_QUESTIONS_2 t_QUESTIONS_3 t_QUESTIONS_4 t_QUESTIONS_5 t_QUESTIONS_6 t_QUESTIONS_7 : Tok}
    {C_BadLine N_BadLine B_BadLine fI_BadLine cc_BadLine cda_BadLine : Addr} {nm_BadLine qq_BadLine : Str} {bs_BadLine sub_BadLine : List Value} {sn_BadLine : List Str} {ab_BadLine : Bool} {col_BadLine : Option Bool} {dd_BadLine : Option Addr} {m0_BadLine m1_BadLine m2_BadLine m3_BadLine m5_BadLine : Option Value}
    {oc_BadLine doc_BadLine pm_BadLine ct_BadLine : Value} {od_BadLine an_BadLine : Option Addr} {osl_BadLine : Array (Option Value)} {cl_BadLine ccl_BadLine : Value} {cld_BadLine cdd_BadLine : Option Addr} {csl_BadLine ccs_BadLine : Array (Option Value)} {vs_BadLine : Array Value} {file_BadLine : Str} {tf_BadLine : Tok}
    (a_is_name : PySem.W.nsIn K mainGlobals "is_name" = some (some (.ref f_is_name)))
    (l_is_name : K.lookup f_is_name = some ⟨oc_is_name, od_is_name, .func (PySem.W.fnOf "is_name" "is_name" (defArgs s_is_name) (defBody s_is_name) (defScope s_is_name) .none kV_is_name dc_is_name pm_is_name an_is_name cd_is_name ct_is_name), sl_is_name⟩)
    (c_is_name : PySem.W.codeIn K cd_is_name "is_name" = true)
    (k_is_name : PySem.W.keepIn K (.ref f_is_name) = true)
    (a_is_place : PySem.W.nsIn K mainGlobals "is_place" = some (some (.ref f_is_place)))
    (l_is_place : K.lookup f_is_place = some ⟨oc_is_place, od_is_place, .func (PySem.W.fnOf "is_place" "is_place" (defArgs s_is_place) (defBody s_is_place) (defScope s_is_place) .none kV_is_place dc_is_place pm_is_place an_is_place cd_is_place ct_is_place), sl_is_place⟩)
    (c_is_place : PySem.W.codeIn K cd_is_place "is_place" = true)
    (k_is_place : PySem.W.keepIn K (.ref f_is_place) = true)
    (a_is_number : PySem.W.nsIn K mainGlobals "is_number" = some (some (.ref f_is_number)))
    (l_is_number : K.lookup f_is_number = some ⟨oc_is_number, od_is_number, .func (PySem.W.fnOf "is_number" "is_number" (defArgs s_is_number) (defBody s_is_number) (defScope s_is_number) .none kV_is_number dc_is_number pm_is_number an_is_number cd_is_number ct_is_number), sl_is_number⟩)
    (c_is_number : PySem.W.codeIn K cd_is_number "is_number" = true)
    (k_is_number : PySem.W.keepIn K (.ref f_is_number) = true)
    (a_lines_of : PySem.W.nsIn K mainGlobals "lines_of" = some (some (.ref f_lines_of)))
    (l_lines_of : K.lookup f_lines_of = some ⟨oc_lines_of, od_lines_of, .func (PySem.W.fnOf "lines_of" "lines_of" (defArgs s_lines_of) (defBody s_lines_of) (defScope s_lines_of) .none kV_lines_of dc_lines_of pm_lines_of an_lines_of cd_lines_of ct_lines_of), sl_lines_of⟩)
    (c_lines_of : PySem.W.codeIn K cd_lines_of "lines_of" = true)
    (k_lines_of : PySem.W.keepIn K (.ref f_lines_of) = true)
    (a_is_deed : PySem.W.nsIn K mainGlobals "is_deed" = some (some (.ref f_is_deed)))
    (l_is_deed : K.lookup f_is_deed = some ⟨oc_is_deed, od_is_deed, .func (PySem.W.fnOf "is_deed" "is_deed" (defArgs s_is_deed) (defBody s_is_deed) (defScope s_is_deed) .none kV_is_deed dc_is_deed pm_is_deed an_is_deed cd_is_deed ct_is_deed), sl_is_deed⟩)
    (c_is_deed : PySem.W.codeIn K cd_is_deed "is_deed" = true)
    (k_is_deed : PySem.W.keepIn K (.ref f_is_deed) = true)
    (a_is_plain : PySem.W.nsIn K mainGlobals "is_plain" = some (some (.ref f_is_plain)))
    (l_is_plain : K.lookup f_is_plain = some ⟨oc_is_plain, od_is_plain, .func (PySem.W.fnOf "is_plain" "is_plain" (defArgs s_is_plain) (defBody s_is_plain) (defScope s_is_plain) .none kV_is_plain dc_is_plain pm_is_plain an_is_plain cd_is_plain ct_is_plain), sl_is_plain⟩)
    (c_is_plain : PySem.W.codeIn K cd_is_plain "is_plain" = true)
    (k_is_plain : PySem.W.keepIn K (.ref f_is_plain) = true)
    (a_is_again : PySem.W.nsIn K mainGlobals "is_again" = some (some (.ref f_is_again)))
    (l_is_again : K.lookup f_is_again = some ⟨oc_is_again, od_is_again, .func (PySem.W.fnOf "is_again" "is_again" (defArgs s_is_again) (defBody s_is_again) (defScope s_is_again) .none kV_is_again dc_is_again pm_is_again an_is_again cd_is_again ct_is_again), sl_is_again⟩)
    (c_is_again : PySem.W.codeIn K cd_is_again "is_again" = true)
    (k_is_again : PySem.W.keepIn K (.ref f_is_again) = true)
    (a_is_opening : PySem.W.nsIn K mainGlobals "is_opening" = some (some (.ref f_is_opening)))
    (l_is_opening : K.lookup f_is_opening = some ⟨oc_is_opening, od_is_opening, .func (PySem.W.fnOf "is_opening" "is_opening" (defArgs s_is_opening) (defBody s_is_opening) (defScope s_is_opening) .none kV_is_opening dc_is_opening pm_is_opening an_is_opening cd_is_opening ct_is_opening), sl_is_opening⟩)
    (c_is_opening : PySem.W.codeIn K cd_is_opening "is_opening" = true)
    (k_is_opening : PySem.W.keepIn K (.ref f_is_opening) = true)
    (a_read_script : PySem.W.nsIn K mainGlobals "read_script" = some (some (.ref f_read_script)))
    (l_read_script : K.lookup f_read_script = some ⟨oc_read_script, od_read_script, .func (PySem.W.fnOf "read_script" "read_script" (defArgs s_read_script) (defBody s_read_script) (defScope s_read_script) .none kV_read_script dc_read_script pm_read_script an_read_script cd_read_script ct_read_script), sl_read_script⟩)
    (c_read_script : PySem.W.codeIn K cd_read_script "read_script" = true)
    (k_read_script : PySem.W.keepIn K (.ref f_read_script) = true)
    (a__law_cell : PySem.W.nsIn K mainGlobals "_law_cell" = some (some (.ref f__law_cell)))
    (l__law_cell : K.lookup f__law_cell = some ⟨oc__law_cell, od__law_cell, .func (PySem.W.fnOf "_law_cell" "_law_cell" (defArgs s__law_cell) (defBody s__law_cell) (defScope s__law_cell) .none kV__law_cell dc__law_cell pm__law_cell an__law_cell cd__law_cell ct__law_cell), sl__law_cell⟩)
    (c__law_cell : PySem.W.codeIn K cd__law_cell "_law_cell" = true)
    (k__law_cell : PySem.W.keepIn K (.ref f__law_cell) = true)
    (a__law_pool : PySem.W.nsIn K mainGlobals "_law_pool" = some (some (.ref f__law_pool)))
    (l__law_pool : K.lookup f__law_pool = some ⟨oc__law_pool, od__law_pool, .func (PySem.W.fnOf "_law_pool" "_law_pool" (defArgs s__law_pool) (defBody s__law_pool) (defScope s__law_pool) .none kV__law_pool dc__law_pool pm__law_pool an__law_pool cd__law_pool ct__law_pool), sl__law_pool⟩)
    (c__law_pool : PySem.W.codeIn K cd__law_pool "_law_pool" = true)
    (k__law_pool : PySem.W.keepIn K (.ref f__law_pool) = true)
    (a__law_take : PySem.W.nsIn K mainGlobals "_law_take" = some (some (.ref f__law_take)))
    (l__law_take : K.lookup f__law_take = some ⟨oc__law_take, od__law_take, .func (PySem.W.fnOf "_law_take" "_law_take" (defArgs s__law_take) (defBody s__law_take) (defScope s__law_take) .none kV__law_take dc__law_take pm__law_take an__law_take cd__law_take ct__law_take), sl__law_take⟩)
    (c__law_take : PySem.W.codeIn K cd__law_take "_law_take" = true)
    (k__law_take : PySem.W.keepIn K (.ref f__law_take) = true)
    (a__law_names : PySem.W.nsIn K mainGlobals "_law_names" = some (some (.ref f__law_names)))
    (l__law_names : K.lookup f__law_names = some ⟨oc__law_names, od__law_names, .func (PySem.W.fnOf "_law_names" "_law_names" (defArgs s__law_names) (defBody s__law_names) (defScope s__law_names) .none kV__law_names dc__law_names pm__law_names an__law_names cd__law_names ct__law_names), sl__law_names⟩)
    (c__law_names : PySem.W.codeIn K cd__law_names "_law_names" = true)
    (k__law_names : PySem.W.keepIn K (.ref f__law_names) = true)
    (a__law_same : PySem.W.nsIn K mainGlobals "_law_same" = some (some (.ref f__law_same)))
    (l__law_same : K.lookup f__law_same = some ⟨oc__law_same, od__law_same, .func (PySem.W.fnOf "_law_same" "_law_same" (defArgs s__law_same) (defBody s__law_same) (defScope s__law_same) .none kV__law_same dc__law_same pm__law_same an__law_same cd__law_same ct__law_same), sl__law_same⟩)
    (c__law_same : PySem.W.codeIn K cd__law_same "_law_same" = true)
    (k__law_same : PySem.W.keepIn K (.ref f__law_same) = true)
    (a__law_number : PySem.W.nsIn K mainGlobals "_law_number" = some (some (.ref f__law_number)))
    (l__law_number : K.lookup f__law_number = some ⟨oc__law_number, od__law_number, .func (PySem.W.fnOf "_law_number" "_law_number" (defArgs s__law_number) (defBody s__law_number) (defScope s__law_number) .none kV__law_number dc__law_number pm__law_number an__law_number cd__law_number ct__law_number), sl__law_number⟩)
    (c__law_number : PySem.W.codeIn K cd__law_number "_law_number" = true)
    (k__law_number : PySem.W.keepIn K (.ref f__law_number) = true)
    (a__law_deed_line : PySem.W.nsIn K mainGlobals "_law_deed_line" = some (some (.ref f__law_deed_line)))
    (l__law_deed_line : K.lookup f__law_deed_line = some ⟨oc__law_deed_line, od__law_deed_line, .func (PySem.W.fnOf "_law_deed_line" "_law_deed_line" (defArgs s__law_deed_line) (defBody s__law_deed_line) (defScope s__law_deed_line) .none kV__law_deed_line dc__law_deed_line pm__law_deed_line an__law_deed_line cd__law_deed_line ct__law_deed_line), sl__law_deed_line⟩)
    (c__law_deed_line : PySem.W.codeIn K cd__law_deed_line "_law_deed_line" = true)
    (k__law_deed_line : PySem.W.keepIn K (.ref f__law_deed_line) = true)
    (a__law_plain_line : PySem.W.nsIn K mainGlobals "_law_plain_line" = some (some (.ref f__law_plain_line)))
    (l__law_plain_line : K.lookup f__law_plain_line = some ⟨oc__law_plain_line, od__law_plain_line, .func (PySem.W.fnOf "_law_plain_line" "_law_plain_line" (defArgs s__law_plain_line) (defBody s__law_plain_line) (defScope s__law_plain_line) .none kV__law_plain_line dc__law_plain_line pm__law_plain_line an__law_plain_line cd__law_plain_line ct__law_plain_line), sl__law_plain_line⟩)
    (c__law_plain_line : PySem.W.codeIn K cd__law_plain_line "_law_plain_line" = true)
    (k__law_plain_line : PySem.W.keepIn K (.ref f__law_plain_line) = true)
    (a__law_opening_line : PySem.W.nsIn K mainGlobals "_law_opening_line" = some (some (.ref f__law_opening_line)))
    (l__law_opening_line : K.lookup f__law_opening_line = some ⟨oc__law_opening_line, od__law_opening_line, .func (PySem.W.fnOf "_law_opening_line" "_law_opening_line" (defArgs s__law_opening_line) (defBody s__law_opening_line) (defScope s__law_opening_line) .none kV__law_opening_line dc__law_opening_line pm__law_opening_line an__law_opening_line cd__law_opening_line ct__law_opening_line), sl__law_opening_line⟩)
    (c__law_opening_line : PySem.W.codeIn K cd__law_opening_line "_law_opening_line" = true)
    (k__law_opening_line : PySem.W.keepIn K (.ref f__law_opening_line) = true)
    (a__law_drawn_lines : PySem.W.nsIn K mainGlobals "_law_drawn_lines" = some (some (.ref f__law_drawn_lines)))
    (l__law_drawn_lines : K.lookup f__law_drawn_lines = some ⟨oc__law_drawn_lines, od__law_drawn_lines, .func (PySem.W.fnOf "_law_drawn_lines" "_law_drawn_lines" (defArgs s__law_drawn_lines) (defBody s__law_drawn_lines) (defScope s__law_drawn_lines) .none kV__law_drawn_lines dc__law_drawn_lines pm__law_drawn_lines an__law_drawn_lines cd__law_drawn_lines ct__law_drawn_lines), sl__law_drawn_lines⟩)
    (c__law_drawn_lines : PySem.W.codeIn K cd__law_drawn_lines "_law_drawn_lines" = true)
    (k__law_drawn_lines : PySem.W.keepIn K (.ref f__law_drawn_lines) = true)
    (a__law_odd_line : PySem.W.nsIn K mainGlobals "_law_odd_line" = some (some (.ref f__law_odd_line)))
    (l__law_odd_line : K.lookup f__law_odd_line = some ⟨oc__law_odd_line, od__law_odd_line, .func (PySem.W.fnOf "_law_odd_line" "_law_odd_line" (defArgs s__law_odd_line) (defBody s__law_odd_line) (defScope s__law_odd_line) .none kV__law_odd_line dc__law_odd_line pm__law_odd_line an__law_odd_line cd__law_odd_line ct__law_odd_line), sl__law_odd_line⟩)
    (c__law_odd_line : PySem.W.codeIn K cd__law_odd_line "_law_odd_line" = true)
    (k__law_odd_line : PySem.W.keepIn K (.ref f__law_odd_line) = true)
    (a__law_spoilt : PySem.W.nsIn K mainGlobals "_law_spoilt" = some (some (.ref f__law_spoilt)))
    (l__law_spoilt : K.lookup f__law_spoilt = some ⟨oc__law_spoilt, od__law_spoilt, .func (PySem.W.fnOf "_law_spoilt" "_law_spoilt" (defArgs s__law_spoilt) (defBody s__law_spoilt) (defScope s__law_spoilt) .none kV__law_spoilt dc__law_spoilt pm__law_spoilt an__law_spoilt cd__law_spoilt ct__law_spoilt), sl__law_spoilt⟩)
    (c__law_spoilt : PySem.W.codeIn K cd__law_spoilt "_law_spoilt" = true)
    (k__law_spoilt : PySem.W.keepIn K (.ref f__law_spoilt) = true)
    (a__law_is_place : PySem.W.nsIn K mainGlobals "_law_is_place" = some (some (.ref f__law_is_place)))
    (l__law_is_place : K.lookup f__law_is_place = some ⟨oc__law_is_place, od__law_is_place, .func (PySem.W.fnOf "_law_is_place" "_law_is_place" (defArgs s__law_is_place) (defBody s__law_is_place) (defScope s__law_is_place) .none kV__law_is_place dc__law_is_place pm__law_is_place an__law_is_place cd__law_is_place ct__law_is_place), sl__law_is_place⟩)
    (c__law_is_place : PySem.W.codeIn K cd__law_is_place "_law_is_place" = true)
    (k__law_is_place : PySem.W.keepIn K (.ref f__law_is_place) = true)
    (a__law_is_count : PySem.W.nsIn K mainGlobals "_law_is_count" = some (some (.ref f__law_is_count)))
    (l__law_is_count : K.lookup f__law_is_count = some ⟨oc__law_is_count, od__law_is_count, .func (PySem.W.fnOf "_law_is_count" "_law_is_count" (defArgs s__law_is_count) (defBody s__law_is_count) (defScope s__law_is_count) .none kV__law_is_count dc__law_is_count pm__law_is_count an__law_is_count cd__law_is_count ct__law_is_count), sl__law_is_count⟩)
    (c__law_is_count : PySem.W.codeIn K cd__law_is_count "_law_is_count" = true)
    (k__law_is_count : PySem.W.keepIn K (.ref f__law_is_count) = true)
    (a__law_is_deed : PySem.W.nsIn K mainGlobals "_law_is_deed" = some (some (.ref f__law_is_deed)))
    (l__law_is_deed : K.lookup f__law_is_deed = some ⟨oc__law_is_deed, od__law_is_deed, .func (PySem.W.fnOf "_law_is_deed" "_law_is_deed" (defArgs s__law_is_deed) (defBody s__law_is_deed) (defScope s__law_is_deed) .none kV__law_is_deed dc__law_is_deed pm__law_is_deed an__law_is_deed cd__law_is_deed ct__law_is_deed), sl__law_is_deed⟩)
    (c__law_is_deed : PySem.W.codeIn K cd__law_is_deed "_law_is_deed" = true)
    (k__law_is_deed : PySem.W.keepIn K (.ref f__law_is_deed) = true)
    (a__law_is_plain : PySem.W.nsIn K mainGlobals "_law_is_plain" = some (some (.ref f__law_is_plain)))
    (l__law_is_plain : K.lookup f__law_is_plain = some ⟨oc__law_is_plain, od__law_is_plain, .func (PySem.W.fnOf "_law_is_plain" "_law_is_plain" (defArgs s__law_is_plain) (defBody s__law_is_plain) (defScope s__law_is_plain) .none kV__law_is_plain dc__law_is_plain pm__law_is_plain an__law_is_plain cd__law_is_plain ct__law_is_plain), sl__law_is_plain⟩)
    (c__law_is_plain : PySem.W.codeIn K cd__law_is_plain "_law_is_plain" = true)
    (k__law_is_plain : PySem.W.keepIn K (.ref f__law_is_plain) = true)
    (a__law_is_opening : PySem.W.nsIn K mainGlobals "_law_is_opening" = some (some (.ref f__law_is_opening)))
    (l__law_is_opening : K.lookup f__law_is_opening = some ⟨oc__law_is_opening, od__law_is_opening, .func (PySem.W.fnOf "_law_is_opening" "_law_is_opening" (defArgs s__law_is_opening) (defBody s__law_is_opening) (defScope s__law_is_opening) .none kV__law_is_opening dc__law_is_opening pm__law_is_opening an__law_is_opening cd__law_is_opening ct__law_is_opening), sl__law_is_opening⟩)
    (c__law_is_opening : PySem.W.codeIn K cd__law_is_opening "_law_is_opening" = true)
    (k__law_is_opening : PySem.W.keepIn K (.ref f__law_is_opening) = true)
    (a__law_first_wrong : PySem.W.nsIn K mainGlobals "_law_first_wrong" = some (some (.ref f__law_first_wrong)))
    (l__law_first_wrong : K.lookup f__law_first_wrong = some ⟨oc__law_first_wrong, od__law_first_wrong, .func (PySem.W.fnOf "_law_first_wrong" "_law_first_wrong" (defArgs s__law_first_wrong) (defBody s__law_first_wrong) (defScope s__law_first_wrong) .none kV__law_first_wrong dc__law_first_wrong pm__law_first_wrong an__law_first_wrong cd__law_first_wrong ct__law_first_wrong), sl__law_first_wrong⟩)
    (c__law_first_wrong : PySem.W.codeIn K cd__law_first_wrong "_law_first_wrong" = true)
    (k__law_first_wrong : PySem.W.keepIn K (.ref f__law_first_wrong) = true)
    (a__law_from_the_back : PySem.W.nsIn K mainGlobals "_law_from_the_back" = some (some (.ref f__law_from_the_back)))
    (l__law_from_the_back : K.lookup f__law_from_the_back = some ⟨oc__law_from_the_back, od__law_from_the_back, .func (PySem.W.fnOf "_law_from_the_back" "_law_from_the_back" (defArgs s__law_from_the_back) (defBody s__law_from_the_back) (defScope s__law_from_the_back) .none kV__law_from_the_back dc__law_from_the_back pm__law_from_the_back an__law_from_the_back cd__law_from_the_back ct__law_from_the_back), sl__law_from_the_back⟩)
    (c__law_from_the_back : PySem.W.codeIn K cd__law_from_the_back "_law_from_the_back" = true)
    (k__law_from_the_back : PySem.W.keepIn K (.ref f__law_from_the_back) = true)
    (a__law_read : PySem.W.nsIn K mainGlobals "_law_read" = some (some (.ref f__law_read)))
    (l__law_read : K.lookup f__law_read = some ⟨oc__law_read, od__law_read, .func (PySem.W.fnOf "_law_read" "_law_read" (defArgs s__law_read) (defBody s__law_read) (defScope s__law_read) .none kV__law_read dc__law_read pm__law_read an__law_read cd__law_read ct__law_read), sl__law_read⟩)
    (c__law_read : PySem.W.codeIn K cd__law_read "_law_read" = true)
    (k__law_read : PySem.W.keepIn K (.ref f__law_read) = true)
    (a_law : PySem.W.nsIn K mainGlobals "law" = some (some (.ref f_law)))
    (l_law : K.lookup f_law = some ⟨oc_law, od_law, .func (PySem.W.fnOf "law" "law" (defArgs s_law) (defBody s_law) (defScope s_law) .none kV_law dc_law pm_law an_law cd_law ct_law), sl_law⟩)
    (c_law : PySem.W.codeIn K cd_law "law" = true)
    (k_law : PySem.W.keepIn K (.ref f_law) = true)
    (z_len : PySem.W.nsIn K mainGlobals "len" = some none)
    (z_abs : PySem.W.nsIn K mainGlobals "abs" = some none)
    (z_int : PySem.W.nsIn K mainGlobals "int" = some none)
    (z_str : PySem.W.nsIn K mainGlobals "str" = some none)
    (z_all : PySem.W.nsIn K mainGlobals "all" = some none)
    (z_isinstance : PySem.W.nsIn K mainGlobals "isinstance" = some none)
    (z_range : PySem.W.nsIn K mainGlobals "range" = some none)
    (z_enumerate : PySem.W.nsIn K mainGlobals "enumerate" = some none)
    (z_tuple : PySem.W.nsIn K mainGlobals "tuple" = some none)
    (z_list : PySem.W.nsIn K mainGlobals "list" = some none)
    (z_dict : PySem.W.nsIn K mainGlobals "dict" = some none)
    (z_bool : PySem.W.nsIn K mainGlobals "bool" = some none)
    (q_LETTERS : PySem.W.nsIn K mainGlobals "LETTERS" = some (some (.str "abcdefghijklmnopqrstuvwxyz" t_LETTERS)))
    (q_DIGITS : PySem.W.nsIn K mainGlobals "DIGITS" = some (some (.str "0123456789" t_DIGITS)))
    (q_STREET : PySem.W.nsIn K mainGlobals "STREET" = some (some (.str "street" t_STREET)))
    (q_LONGEST_NAME : PySem.W.nsIn K mainGlobals "LONGEST_NAME" = some (some (.int 8 t_LONGEST_NAME)))
    (q_LONGEST_NUMBER : PySem.W.nsIn K mainGlobals "LONGEST_NUMBER" = some (some (.int 6 t_LONGEST_NUMBER)))
    (q_MOST_DEEP : PySem.W.nsIn K mainGlobals "MOST_DEEP" = some (some (.int 4 t_MOST_DEEP)))
    (q_ALL : PySem.W.nsIn K mainGlobals "ALL" = some (some (.str "all" t_ALL)))
    (q_END : PySem.W.nsIn K mainGlobals "END" = some (some (.str "end" t_END)))
    (q_VERDICTS : PySem.W.nsIn K mainGlobals "VERDICTS" = some (some (.ref u_VERDICTS)))
    (l_VERDICTS : K.lookup u_VERDICTS = some ⟨.type "tuple", ud_VERDICTS, .seq #[.str "unfair" t_VERDICTS_0, .str "sure" t_VERDICTS_1, .str "open" t_VERDICTS_2, .str "dead" t_VERDICTS_3] un_VERDICTS, us_VERDICTS⟩)
    (q_MOVES : PySem.W.nsIn K mainGlobals "MOVES" = some (some (.ref u_MOVES)))
    (l_MOVES : K.lookup u_MOVES = some ⟨.type "tuple", ud_MOVES, .seq #[.str "undo" t_MOVES_0, .str "redo" t_MOVES_1, .str "send" t_MOVES_2, .str "guard free" t_MOVES_3, .str "guard wise" t_MOVES_4, .str "guard sure" t_MOVES_5] un_MOVES, us_MOVES⟩)
    (q_QUESTIONS : PySem.W.nsIn K mainGlobals "QUESTIONS" = some (some (.ref u_QUESTIONS)))
    (l_QUESTIONS : K.lookup u_QUESTIONS = some ⟨.type "tuple", ud_QUESTIONS, .seq #[.str "verdict" t_QUESTIONS_0, .str "able" t_QUESTIONS_1, .str "wise" t_QUESTIONS_2, .str "sure" t_QUESTIONS_3, .str "left" t_QUESTIONS_4, .str "worst" t_QUESTIONS_5, .str "ends" t_QUESTIONS_6, .str "riders" t_QUESTIONS_7] un_QUESTIONS, us_QUESTIONS⟩)
    (aC_BadLine : PySem.W.nsIn K mainGlobals "BadLine" = some (some (.ref C_BadLine)))
    (aB_BadLine : PySem.W.nsIn K mainGlobals "RidesError" = some (some (.ref B_BadLine)))
    (xL_BadLine : K.lookup C_BadLine = some (excClassObj nm_BadLine qq_BadLine C_BadLine N_BadLine bs_BadLine [.ref B_BadLine, .type "ValueError", .type "Exception", .type "BaseException", .type "object"] true sn_BadLine sub_BadLine ab_BadLine col_BadLine dd_BadLine m0_BadLine m1_BadLine m2_BadLine m3_BadLine m5_BadLine "ValueError.__new__"))
    (sa_BadLine : PySem.W.findIn K (.ref C_BadLine) "__setattr__" = some (some (.builtin "object.__setattr__")))
    (ga_BadLine : PySem.W.findIn K (.ref C_BadLine) "__getattribute__" = some (some (.builtin "BaseException.__getattribute__")))
    (gg_BadLine : PySem.W.findIn K (.ref C_BadLine) "__getattr__" = some none)
    (no_BadLine : PySem.W.findIn K (.ref C_BadLine) "line" = some none)
    (iC_BadLine : PySem.W.findIn K (.ref C_BadLine) "__init__" = some (some (.ref fI_BadLine)))
    (tI_BadLine : PySem.W.typeIn K (.ref fI_BadLine) = some (.type "function"))
    (lI_BadLine : K.lookup fI_BadLine = some ⟨oc_BadLine, od_BadLine, .func (PySem.W.ksFn "__init__" "BadLine.__init__" (PySem.XRaw.xA "line" ⟨6, 17, 6, 21⟩ ⟨6, 23, 6, 27⟩) (PySem.XRaw.xB "line" (.Constant (.str "a line of the text is wrong") 0 ⟨7, 25, 7, 54⟩) ⟨7, 8, 7, 13⟩ ⟨7, 8, 7, 15⟩ ⟨7, 8, 7, 24⟩ ⟨7, 8, 7, 55⟩ ⟨7, 25, 7, 54⟩ ⟨8, 8, 8, 12⟩ ⟨8, 8, 8, 17⟩ ⟨8, 20, 8, 24⟩ ⟨8, 8, 8, 24⟩) (PySem.XRaw.xS "line") .none .none doc_BadLine pm_BadLine an_BadLine (.ref cda_BadLine) ct_BadLine cc_BadLine), osl_BadLine⟩)
    (cI_BadLine : PySem.W.codeIn K (.ref cda_BadLine) "BadLine.__init__" = true)
    (kC_BadLine : PySem.W.keepIn K (.ref C_BadLine) = true)
    (eC_BadLine : PySem.W.subIn K (.ref C_BadLine) (.type "BaseException") = some true)
    (vC_BadLine : PySem.W.subIn K (.ref C_BadLine) (.type "ValueError") = some true)
    (tC_BadLine : PySem.W.typeIn K (.ref C_BadLine) = some (.type "type"))
    (hC_BadLine : PySem.W.hasDictIn K C_BadLine = true)
    (sl_BadLine : PySem.W.mroIn K C_BadLine (.ref C_BadLine) = some true)
    (su_BadLine : PySem.W.ks_superIn K C_BadLine C_BadLine "__init__" = some (some (.builtin "ValueError.__init__")))
    (op_BadLine : PySem.W.nsIn K PySem.cStatics "thirdparty.any" = some none)
    (zs_BadLine : PySem.W.nsIn K mainGlobals "super" = some none)
    (ce_BadLine : K.lookup cc_BadLine = some ⟨cl_BadLine, cld_BadLine, .cell (some (.ref C_BadLine)), csl_BadLine⟩)
    (co_BadLine : K.lookup cda_BadLine = some ⟨ccl_BadLine, cdd_BadLine, .fields vs_BadLine, ccs_BadLine⟩)
    (v2_BadLine : vs_BadLine[2]? = some (.str file_BadLine tf_BadLine))
    (vf_BadLine : ((Pg.main.file : Str) == file_BadLine) = true)
    (sC_BadLine : PySem.W.subIn K (.ref C_BadLine) (.ref C_BadLine) = some true)
    (kB_BadLine : PySem.W.kitOne K (.ref C_BadLine) (.ref B_BadLine) = some true)
    (cl_BadLine : PySem.W.findIn K (.ref C_BadLine) "__class__" = some (some (.builtin "object.__class__")))
    (sp_BadLine : PySem.W.specialIn K (.builtin "object.__class__") "__get__" = some (some (.builtin "getset_descriptor.__get__")))
    (tk_BadLine : PySem.W.takesIn K (.builtin "object.__class__") = some true)
    (mo_BadLine : PySem.W.mroIn K C_BadLine (.type "object") = some true)
    : ∃ fd : FuncData, (∀ (s : Shared) (v : Value), BindsTo s fd ⟨[v], []⟩ [("script", v)]) ∧ ∀ base : Heap, K.In base → base.Ns mainGlobals mg → FnOk Pg w K mg base CX0 16 fa fd ["script"] (spLaw K) := by
  have e := hfa.symm.trans (PySem.W.mg_of X G a_law)
  cases e
  have x_BadLine : PySem.XRaw.XTxt Pg K mg "BadLine" "BadLine.__init__" "line" C_BadLine fI_BadLine cc_BadLine cda_BadLine "a line of the text is wrong" :=
    { gC := PySem.W.mg_of X G aC_BadLine, cls := ⟨_, _, _, _, _, _, _, _, _, _, _, _, _, _, _, xL_BadLine, rfl⟩, sa := sa_BadLine, ga := ga_BadLine, gg := gg_BadLine, noN := no_BadLine, iC := iC_BadLine, tC := tI_BadLine, kC := kC_BadLine, exC := eC_BadLine, veC := vC_BadLine, tyC := tC_BadLine, hdC := hC_BadLine, slf := sl_BadLine, sup := su_BadLine, opq := op_BadLine, noS := PySem.W.mg_none_of X G zs_BadLine, top := by decide +kernel,
      cell := ⟨_, _, _, ce_BadLine⟩, code := ⟨_, _, _, _, _, _, co_BadLine, v2_BadLine, vf_BadLine⟩,
      fn := ⟨_, _, _, _, _, _, _, _, _, _, _, _, _, _, _, _, _, _, lI_BadLine, cI_BadLine, fun L => rfl, fun u v => rfl, ⟨(do return (← (pure (some false) : Sem (Option Bool))).getD true), fun L => rfl⟩⟩, nf := ⟨by decide +kernel, by decide +kernel, by decide +kernel, by decide +kernel⟩ }
  have f_is_name' := fun_mk (st := s_is_name) l_is_name c_is_name k_is_name
  have b_is_name' := f_is_name'.binds (ps := ["word"]) fun _ _ _ _ _ _ us hl => match us, hl with | [_], _ => rfl
  have f_is_place' := fun_mk (st := s_is_place) l_is_place c_is_place k_is_place
  have b_is_place' := f_is_place'.binds (ps := ["word"]) fun _ _ _ _ _ _ us hl => match us, hl with | [_], _ => rfl
  have f_is_number' := fun_mk (st := s_is_number) l_is_number c_is_number k_is_number
  have b_is_number' := f_is_number'.binds (ps := ["word"]) fun _ _ _ _ _ _ us hl => match us, hl with | [_], _ => rfl
  have f_lines_of' := fun_mk (st := s_lines_of) l_lines_of c_lines_of k_lines_of
  have b_lines_of' := f_lines_of'.binds (ps := ["text"]) fun _ _ _ _ _ _ us hl => match us, hl with | [_], _ => rfl
  have f_is_deed' := fun_mk (st := s_is_deed) l_is_deed c_is_deed k_is_deed
  have b_is_deed' := f_is_deed'.binds (ps := ["line"]) fun _ _ _ _ _ _ us hl => match us, hl with | [_], _ => rfl
  have f_is_plain' := fun_mk (st := s_is_plain) l_is_plain c_is_plain k_is_plain
  have b_is_plain' := f_is_plain'.binds (ps := ["line"]) fun _ _ _ _ _ _ us hl => match us, hl with | [_], _ => rfl
  have f_is_again' := fun_mk (st := s_is_again) l_is_again c_is_again k_is_again
  have b_is_again' := f_is_again'.binds (ps := ["line"]) fun _ _ _ _ _ _ us hl => match us, hl with | [_], _ => rfl
  have f_is_opening' := fun_mk (st := s_is_opening) l_is_opening c_is_opening k_is_opening
  have b_is_opening' := f_is_opening'.binds (ps := ["line"]) fun _ _ _ _ _ _ us hl => match us, hl with | [_], _ => rfl
  have f_read_script' := fun_mk (st := s_read_script) l_read_script c_read_script k_read_script
  have b_read_script' := f_read_script'.binds (ps := ["text"]) fun _ _ _ _ _ _ us hl => match us, hl with | [_], _ => rfl
  have f__law_cell' := fun_mk (st := s__law_cell) l__law_cell c__law_cell k__law_cell
  have b__law_cell' := f__law_cell'.binds (ps := ["script", "k"]) fun _ _ _ _ _ _ us hl => match us, hl with | [_, _], _ => rfl
  have f__law_pool' := fun_mk (st := s__law_pool) l__law_pool c__law_pool k__law_pool
  have b__law_pool' := f__law_pool'.binds (ps := ["cell"]) fun _ _ _ _ _ _ us hl => match us, hl with | [_], _ => rfl
  have f__law_take' := fun_mk (st := s__law_take) l__law_take c__law_take k__law_take
  have b__law_take' := f__law_take'.binds (ps := ["pool", "limit"]) fun _ _ _ _ _ _ us hl => match us, hl with | [_, _], _ => rfl
  have f__law_names' := fun_mk (st := s__law_names) l__law_names c__law_names k__law_names
  have b__law_names' := f__law_names'.binds (ps := ["pool", "count"]) fun _ _ _ _ _ _ us hl => match us, hl with | [_, _], _ => rfl
  have f__law_same' := fun_mk (st := s__law_same) l__law_same c__law_same k__law_same
  have b__law_same' := f__law_same'.binds (ps := ["actual", "expected"]) fun _ _ _ _ _ _ us hl => match us, hl with | [_, _], _ => rfl
  have f__law_number' := fun_mk (st := s__law_number) l__law_number c__law_number k__law_number
  have b__law_number' := f__law_number'.binds (ps := ["pool"]) fun _ _ _ _ _ _ us hl => match us, hl with | [_], _ => rfl
  have f__law_deed_line' := fun_mk (st := s__law_deed_line) l__law_deed_line c__law_deed_line k__law_deed_line
  have b__law_deed_line' := f__law_deed_line'.binds (ps := ["pool", "names"]) fun _ _ _ _ _ _ us hl => match us, hl with | [_, _], _ => rfl
  have f__law_plain_line' := fun_mk (st := s__law_plain_line) l__law_plain_line c__law_plain_line k__law_plain_line
  have b__law_plain_line' := f__law_plain_line'.binds (ps := ["pool"]) fun _ _ _ _ _ _ us hl => match us, hl with | [_], _ => rfl
  have f__law_opening_line' := fun_mk (st := s__law_opening_line) l__law_opening_line c__law_opening_line k__law_opening_line
  have b__law_opening_line' := f__law_opening_line'.binds (ps := ["pool"]) fun _ _ _ _ _ _ us hl => match us, hl with | [_], _ => rfl
  have f__law_drawn_lines' := fun_mk (st := s__law_drawn_lines) l__law_drawn_lines c__law_drawn_lines k__law_drawn_lines
  have b__law_drawn_lines' := f__law_drawn_lines'.binds (ps := ["pool", "names"]) fun _ _ _ _ _ _ us hl => match us, hl with | [_, _], _ => rfl
  have f__law_odd_line' := fun_mk (st := s__law_odd_line) l__law_odd_line c__law_odd_line k__law_odd_line
  have b__law_odd_line' := f__law_odd_line'.binds (ps := ["pool"]) fun _ _ _ _ _ _ us hl => match us, hl with | [_], _ => rfl
  have f__law_spoilt' := fun_mk (st := s__law_spoilt) l__law_spoilt c__law_spoilt k__law_spoilt
  have b__law_spoilt' := f__law_spoilt'.binds (ps := ["pool", "lines"]) fun _ _ _ _ _ _ us hl => match us, hl with | [_, _], _ => rfl
  have f__law_is_place' := fun_mk (st := s__law_is_place) l__law_is_place c__law_is_place k__law_is_place
  have b__law_is_place' := f__law_is_place'.binds (ps := ["word"]) fun _ _ _ _ _ _ us hl => match us, hl with | [_], _ => rfl
  have f__law_is_count' := fun_mk (st := s__law_is_count) l__law_is_count c__law_is_count k__law_is_count
  have b__law_is_count' := f__law_is_count'.binds (ps := ["word"]) fun _ _ _ _ _ _ us hl => match us, hl with | [_], _ => rfl
  have f__law_is_deed' := fun_mk (st := s__law_is_deed) l__law_is_deed c__law_is_deed k__law_is_deed
  have b__law_is_deed' := f__law_is_deed'.binds (ps := ["line"]) fun _ _ _ _ _ _ us hl => match us, hl with | [_], _ => rfl
  have f__law_is_plain' := fun_mk (st := s__law_is_plain) l__law_is_plain c__law_is_plain k__law_is_plain
  have b__law_is_plain' := f__law_is_plain'.binds (ps := ["line"]) fun _ _ _ _ _ _ us hl => match us, hl with | [_], _ => rfl
  have f__law_is_opening' := fun_mk (st := s__law_is_opening) l__law_is_opening c__law_is_opening k__law_is_opening
  have b__law_is_opening' := f__law_is_opening'.binds (ps := ["line"]) fun _ _ _ _ _ _ us hl => match us, hl with | [_], _ => rfl
  have f__law_first_wrong' := fun_mk (st := s__law_first_wrong) l__law_first_wrong c__law_first_wrong k__law_first_wrong
  have b__law_first_wrong' := f__law_first_wrong'.binds (ps := ["text"]) fun _ _ _ _ _ _ us hl => match us, hl with | [_], _ => rfl
  have f__law_from_the_back' := fun_mk (st := s__law_from_the_back) l__law_from_the_back c__law_from_the_back k__law_from_the_back
  have b__law_from_the_back' := f__law_from_the_back'.binds (ps := ["text"]) fun _ _ _ _ _ _ us hl => match us, hl with | [_], _ => rfl
  have f__law_read' := fun_mk (st := s__law_read) l__law_read c__law_read k__law_read
  have b__law_read' := f__law_read'.binds (ps := ["text"]) fun _ _ _ _ _ _ us hl => match us, hl with | [_], _ => rfl
  have f_law' := fun_mk (st := s_law) l_law c_law k_law
  have b_law' := f_law'.binds (ps := ["script"]) fun _ _ _ _ _ _ us hl => match us, hl with | [_], _ => rfl
  let T : Txt K mg :=
    { a_is_name := f_is_name, d_is_name := _, f_is_name := f_is_name', g_is_name := PySem.W.mg_of X G a_is_name, b_is_name := b_is_name',
      a_is_place := f_is_place, d_is_place := _, f_is_place := f_is_place', g_is_place := PySem.W.mg_of X G a_is_place, b_is_place := b_is_place',
      a_is_number := f_is_number, d_is_number := _, f_is_number := f_is_number', g_is_number := PySem.W.mg_of X G a_is_number, b_is_number := b_is_number',
      a_lines_of := f_lines_of, d_lines_of := _, f_lines_of := f_lines_of', g_lines_of := PySem.W.mg_of X G a_lines_of, b_lines_of := b_lines_of',
      a_is_deed := f_is_deed, d_is_deed := _, f_is_deed := f_is_deed', g_is_deed := PySem.W.mg_of X G a_is_deed, b_is_deed := b_is_deed',
      a_is_plain := f_is_plain, d_is_plain := _, f_is_plain := f_is_plain', g_is_plain := PySem.W.mg_of X G a_is_plain, b_is_plain := b_is_plain',
      a_is_again := f_is_again, d_is_again := _, f_is_again := f_is_again', g_is_again := PySem.W.mg_of X G a_is_again, b_is_again := b_is_again',
      a_is_opening := f_is_opening, d_is_opening := _, f_is_opening := f_is_opening', g_is_opening := PySem.W.mg_of X G a_is_opening, b_is_opening := b_is_opening',
      a_read_script := f_read_script, d_read_script := _, f_read_script := f_read_script', g_read_script := PySem.W.mg_of X G a_read_script, b_read_script := b_read_script',
      a__law_cell := f__law_cell, d__law_cell := _, f__law_cell := f__law_cell', g__law_cell := PySem.W.mg_of X G a__law_cell, b__law_cell := b__law_cell',
      a__law_pool := f__law_pool, d__law_pool := _, f__law_pool := f__law_pool', g__law_pool := PySem.W.mg_of X G a__law_pool, b__law_pool := b__law_pool',
      a__law_take := f__law_take, d__law_take := _, f__law_take := f__law_take', g__law_take := PySem.W.mg_of X G a__law_take, b__law_take := b__law_take',
      a__law_names := f__law_names, d__law_names := _, f__law_names := f__law_names', g__law_names := PySem.W.mg_of X G a__law_names, b__law_names := b__law_names',
      a__law_same := f__law_same, d__law_same := _, f__law_same := f__law_same', g__law_same := PySem.W.mg_of X G a__law_same, b__law_same := b__law_same',
      a__law_number := f__law_number, d__law_number := _, f__law_number := f__law_number', g__law_number := PySem.W.mg_of X G a__law_number, b__law_number := b__law_number',
      a__law_deed_line := f__law_deed_line, d__law_deed_line := _, f__law_deed_line := f__law_deed_line', g__law_deed_line := PySem.W.mg_of X G a__law_deed_line, b__law_deed_line := b__law_deed_line',
      a__law_plain_line := f__law_plain_line, d__law_plain_line := _, f__law_plain_line := f__law_plain_line', g__law_plain_line := PySem.W.mg_of X G a__law_plain_line, b__law_plain_line := b__law_plain_line',
      a__law_opening_line := f__law_opening_line, d__law_opening_line := _, f__law_opening_line := f__law_opening_line', g__law_opening_line := PySem.W.mg_of X G a__law_opening_line, b__law_opening_line := b__law_opening_line',
      a__law_drawn_lines := f__law_drawn_lines, d__law_drawn_lines := _, f__law_drawn_lines := f__law_drawn_lines', g__law_drawn_lines := PySem.W.mg_of X G a__law_drawn_lines, b__law_drawn_lines := b__law_drawn_lines',
      a__law_odd_line := f__law_odd_line, d__law_odd_line := _, f__law_odd_line := f__law_odd_line', g__law_odd_line := PySem.W.mg_of X G a__law_odd_line, b__law_odd_line := b__law_odd_line',
      a__law_spoilt := f__law_spoilt, d__law_spoilt := _, f__law_spoilt := f__law_spoilt', g__law_spoilt := PySem.W.mg_of X G a__law_spoilt, b__law_spoilt := b__law_spoilt',
      a__law_is_place := f__law_is_place, d__law_is_place := _, f__law_is_place := f__law_is_place', g__law_is_place := PySem.W.mg_of X G a__law_is_place, b__law_is_place := b__law_is_place',
      a__law_is_count := f__law_is_count, d__law_is_count := _, f__law_is_count := f__law_is_count', g__law_is_count := PySem.W.mg_of X G a__law_is_count, b__law_is_count := b__law_is_count',
      a__law_is_deed := f__law_is_deed, d__law_is_deed := _, f__law_is_deed := f__law_is_deed', g__law_is_deed := PySem.W.mg_of X G a__law_is_deed, b__law_is_deed := b__law_is_deed',
      a__law_is_plain := f__law_is_plain, d__law_is_plain := _, f__law_is_plain := f__law_is_plain', g__law_is_plain := PySem.W.mg_of X G a__law_is_plain, b__law_is_plain := b__law_is_plain',
      a__law_is_opening := f__law_is_opening, d__law_is_opening := _, f__law_is_opening := f__law_is_opening', g__law_is_opening := PySem.W.mg_of X G a__law_is_opening, b__law_is_opening := b__law_is_opening',
      a__law_first_wrong := f__law_first_wrong, d__law_first_wrong := _, f__law_first_wrong := f__law_first_wrong', g__law_first_wrong := PySem.W.mg_of X G a__law_first_wrong, b__law_first_wrong := b__law_first_wrong',
      a__law_from_the_back := f__law_from_the_back, d__law_from_the_back := _, f__law_from_the_back := f__law_from_the_back', g__law_from_the_back := PySem.W.mg_of X G a__law_from_the_back, b__law_from_the_back := b__law_from_the_back',
      a__law_read := f__law_read, d__law_read := _, f__law_read := f__law_read', g__law_read := PySem.W.mg_of X G a__law_read, b__law_read := b__law_read',
      a_law := fa, d_law := _, f_law := f_law', g_law := PySem.W.mg_of X G a_law, b_law := b_law',
      z_len := PySem.W.mg_none_of X G z_len,
      z_abs := PySem.W.mg_none_of X G z_abs,
      z_int := PySem.W.mg_none_of X G z_int,
      z_str := PySem.W.mg_none_of X G z_str,
      z_all := PySem.W.mg_none_of X G z_all,
      z_isinstance := PySem.W.mg_none_of X G z_isinstance,
      z_range := PySem.W.mg_none_of X G z_range,
      z_enumerate := PySem.W.mg_none_of X G z_enumerate,
      z_tuple := PySem.W.mg_none_of X G z_tuple,
      z_list := PySem.W.mg_none_of X G z_list,
      z_dict := PySem.W.mg_none_of X G z_dict,
      z_bool := PySem.W.mg_none_of X G z_bool,
      c_LETTERS := ⟨_, PySem.W.mg_of X G q_LETTERS, ⟨_, rfl⟩⟩,
      c_DIGITS := ⟨_, PySem.W.mg_of X G q_DIGITS, ⟨_, rfl⟩⟩,
      c_STREET := ⟨_, PySem.W.mg_of X G q_STREET, ⟨_, rfl⟩⟩,
      c_LONGEST_NAME := ⟨_, PySem.W.mg_of X G q_LONGEST_NAME, ⟨_, rfl⟩⟩,
      c_LONGEST_NUMBER := ⟨_, PySem.W.mg_of X G q_LONGEST_NUMBER, ⟨_, rfl⟩⟩,
      c_MOST_DEEP := ⟨_, PySem.W.mg_of X G q_MOST_DEEP, ⟨_, rfl⟩⟩,
      c_ALL := ⟨_, PySem.W.mg_of X G q_ALL, ⟨_, rfl⟩⟩,
      c_END := ⟨_, PySem.W.mg_of X G q_END, ⟨_, rfl⟩⟩,
      t_VERDICTS := u_VERDICTS, c_VERDICTS := ⟨_, PySem.W.mg_of X G q_VERDICTS, rfl⟩, s_VERDICTS := ⟨_, _, _, l_VERDICTS, rfl, rfl, by rw [sizeLine_eq]; exact (by decide : 4 ≤ 16777216), (.cons ⟨_, rfl⟩ (.cons ⟨_, rfl⟩ (.cons ⟨_, rfl⟩ (.cons ⟨_, rfl⟩ .nil))))⟩,
      t_MOVES := u_MOVES, c_MOVES := ⟨_, PySem.W.mg_of X G q_MOVES, rfl⟩, s_MOVES := ⟨_, _, _, l_MOVES, rfl, rfl, by rw [sizeLine_eq]; exact (by decide : 6 ≤ 16777216), (.cons ⟨_, rfl⟩ (.cons ⟨_, rfl⟩ (.cons ⟨_, rfl⟩ (.cons ⟨_, rfl⟩ (.cons ⟨_, rfl⟩ (.cons ⟨_, rfl⟩ .nil))))))⟩,
      t_QUESTIONS := u_QUESTIONS, c_QUESTIONS := ⟨_, PySem.W.mg_of X G q_QUESTIONS, rfl⟩, s_QUESTIONS := ⟨_, _, _, l_QUESTIONS, rfl, rfl, by rw [sizeLine_eq]; exact (by decide : 8 ≤ 16777216), (.cons ⟨_, rfl⟩ (.cons ⟨_, rfl⟩ (.cons ⟨_, rfl⟩ (.cons ⟨_, rfl⟩ (.cons ⟨_, rfl⟩ (.cons ⟨_, rfl⟩ (.cons ⟨_, rfl⟩ (.cons ⟨_, rfl⟩ .nil))))))))⟩,
      C_BadLine := C_BadLine, i_BadLine := fI_BadLine, e_BadLine := cc_BadLine, k_BadLine := cda_BadLine, x_BadLine := x_BadLine, m_BadLine := PySem.W.exm_ref eC_BadLine hC_BadLine tC_BadLine sC_BadLine, y_BadLine := ⟨ga_BadLine, gg_BadLine, eC_BadLine, hC_BadLine, cl_BadLine, sp_BadLine, tk_BadLine, mo_BadLine⟩,
      C_RidesError := B_BadLine, g_RidesError := PySem.W.mg_of X G aB_BadLine, u_BadLine := kB_BadLine }
  exact ⟨PySem.W.fnOf "law" "law" (defArgs s_law) (defBody s_law) (defScope s_law) .none kV_law dc_law pm_law an_law cd_law ct_law, fun s v => .of_eq rfl, fun base _ _ => ok_law (w := w) (base := base) T⟩
end K89
open PySem PySem.W PyProof.Rows
set_option maxRecDepth 100000 in
set_option maxHeartbeats 0 in
theorem PySem.Challenge.cw_ridesonce_k89_scripts_are_read_holds : PySem.Challenge.rw_ridesonce_k89_scripts_are_read.Holds := by
  w_on; o_law; k_head; (case hw => w_witness2)
  k_fill
  refine L2.walk_of (l := PySem.Challenge.rw_ridesonce_k89_scripts_are_read) (n := 63) (k := 16) (x := "script") (CX := fun _ => L2.CX0) (sp := fun w => K89.spLaw _) rfl (by decide) rfl ⟨rfl, by decide, by decide⟩ (fun w h Y => PySem.W.kIn_of Y) ?F (fun _ _ a ns hl _ hS => ⟨a, ns, rfl, hS, hl, fun _ => rfl⟩) fun _ _ _ _ _ z => z
  case F =>
    intro w mg fa h KX G hmg
    refine' K89.all_mk (w := w) KX G hmg ?h_a_is_name ?h_l_is_name ?h_c_is_name ?h_k_is_name ?h_a_is_place ?h_l_is_place ?h_c_is_place ?h_k_is_place ?h_a_is_number ?h_l_is_number ?h_c_is_number ?h_k_is_number ?h_a_lines_of ?h_l_lines_of ?h_c_lines_of ?h_k_lines_of ?h_a_is_deed ?h_l_is_deed ?h_c_is_deed ?h_k_is_deed ?h_a_is_plain ?h_l_is_plain ?h_c_is_plain ?h_k_is_plain ?h_a_is_again ?h_l_is_again ?h_c_is_again ?h_k_is_again ?h_a_is_opening ?h_l_is_opening ?h_c_is_opening ?h_k_is_opening ?h_a_read_script ?h_l_read_script ?h_c_read_script ?h_k_read_script ?h_a__law_cell ?h_l__law_cell ?h_c__law_cell ?h_k__law_cell ?h_a__law_pool ?h_l__law_pool ?h_c__law_pool ?h_k__law_pool ?h_a__law_take ?h_l__law_take ?h_c__law_take ?h_k__law_take ?h_a__law_names ?h_l__law_names ?h_c__law_names ?h_k__law_names ?h_a__law_same ?h_l__law_same ?h_c__law_same ?h_k__law_same ?h_a__law_number ?h_l__law_number ?h_c__law_number ?h_k__law_number ?h_a__law_deed_line ?h_l__law_deed_line ?h_c__law_deed_line ?h_k__law_deed_line ?h_a__law_plain_line ?h_l__law_plain_line ?h_c__law_plain_line ?h_k__law_plain_line ?h_a__law_opening_line ?h_l__law_opening_line ?h_c__law_opening_line ?h_k__law_opening_line ?h_a__law_drawn_lines ?h_l__law_drawn_lines ?h_c__law_drawn_lines ?h_k__law_drawn_lines ?h_a__law_odd_line ?h_l__law_odd_line ?h_c__law_odd_line ?h_k__law_odd_line ?h_a__law_spoilt ?h_l__law_spoilt ?h_c__law_spoilt ?h_k__law_spoilt ?h_a__law_is_place ?h_l__law_is_place ?h_c__law_is_place ?h_k__law_is_place ?h_a__law_is_count ?h_l__law_is_count ?h_c__law_is_count ?h_k__law_is_count ?h_a__law_is_deed ?h_l__law_is_deed ?h_c__law_is_deed ?h_k__law_is_deed ?h_a__law_is_plain ?h_l__law_is_plain ?h_c__law_is_plain ?h_k__law_is_plain ?h_a__law_is_opening ?h_l__law_is_opening ?h_c__law_is_opening ?h_k__law_is_opening ?h_a__law_first_wrong ?h_l__law_first_wrong ?h_c__law_first_wrong ?h_k__law_first_wrong ?h_a__law_from_the_back ?h_l__law_from_the_back ?h_c__law_from_the_back ?h_k__law_from_the_back ?h_a__law_read ?h_l__law_read ?h_c__law_read ?h_k__law_read ?h_a_law ?h_l_law ?h_c_law ?h_k_law ?h_z_len ?h_z_abs ?h_z_int ?h_z_str ?h_z_all ?h_z_isinstance ?h_z_range ?h_z_enumerate ?h_z_tuple ?h_z_list ?h_z_dict ?h_z_bool ?h_q_LETTERS ?h_q_DIGITS ?h_q_STREET ?h_q_LONGEST_NAME ?h_q_LONGEST_NUMBER ?h_q_MOST_DEEP ?h_q_ALL ?h_q_END ?h_q_VERDICTS ?h_l_VERDICTS ?h_q_MOVES ?h_l_MOVES ?h_q_QUESTIONS ?h_l_QUESTIONS ?h_aC_BadLine ?h_aB_BadLine ?h_xL_BadLine ?h_sa_BadLine ?h_ga_BadLine ?h_gg_BadLine ?h_no_BadLine ?h_iC_BadLine ?h_tI_BadLine ?h_lI_BadLine ?h_cI_BadLine ?h_kC_BadLine ?h_eC_BadLine ?h_vC_BadLine ?h_tC_BadLine ?h_hC_BadLine ?h_sl_BadLine ?h_su_BadLine ?h_op_BadLine ?h_zs_BadLine ?h_ce_BadLine ?h_co_BadLine ?h_v2_BadLine ?h_vf_BadLine ?h_sC_BadLine ?h_kB_BadLine ?h_cl_BadLine ?h_sp_BadLine ?h_tk_BadLine ?h_mo_BadLine
    (case h_a_is_name => k_is)
    (case h_l_is_name => k_is)
    (case h_c_is_name => k_is)
    (case h_k_is_name => k_is)
    (case h_a_is_place => k_is)
    (case h_l_is_place => k_is)
    (case h_c_is_place => k_is)
    (case h_k_is_place => k_is)
    (case h_a_is_number => k_is)
    (case h_l_is_number => k_is)
    (case h_c_is_number => k_is)
    (case h_k_is_number => k_is)
    (case h_a_lines_of => k_is)
    (case h_l_lines_of => k_is)
    (case h_c_lines_of => k_is)
    (case h_k_lines_of => k_is)
    (case h_a_is_deed => k_is)
    (case h_l_is_deed => k_is)
    (case h_c_is_deed => k_is)
    (case h_k_is_deed => k_is)
    (case h_a_is_plain => k_is)
    (case h_l_is_plain => k_is)
    (case h_c_is_plain => k_is)
    (case h_k_is_plain => k_is)
    (case h_a_is_again => k_is)
    (case h_l_is_again => k_is)
    (case h_c_is_again => k_is)
    (case h_k_is_again => k_is)
    (case h_a_is_opening => k_is)
    (case h_l_is_opening => k_is)
    (case h_c_is_opening => k_is)
    (case h_k_is_opening => k_is)
    (case h_a_read_script => k_is)
    (case h_l_read_script => k_is)
    (case h_c_read_script => k_is)
    (case h_k_read_script => k_is)
    (case h_a__law_cell => k_is)
    (case h_l__law_cell => k_is)
    (case h_c__law_cell => k_is)
    (case h_k__law_cell => k_is)
    (case h_a__law_pool => k_is)
    (case h_l__law_pool => k_is)
    (case h_c__law_pool => k_is)
    (case h_k__law_pool => k_is)
    (case h_a__law_take => k_is)
    (case h_l__law_take => k_is)
    (case h_c__law_take => k_is)
    (case h_k__law_take => k_is)
    (case h_a__law_names => k_is)
    (case h_l__law_names => k_is)
    (case h_c__law_names => k_is)
    (case h_k__law_names => k_is)
    (case h_a__law_same => k_is)
    (case h_l__law_same => k_is)
    (case h_c__law_same => k_is)
    (case h_k__law_same => k_is)
    (case h_a__law_number => k_is)
    (case h_l__law_number => k_is)
    (case h_c__law_number => k_is)
    (case h_k__law_number => k_is)
    (case h_a__law_deed_line => k_is)
    (case h_l__law_deed_line => k_is)
    (case h_c__law_deed_line => k_is)
    (case h_k__law_deed_line => k_is)
    (case h_a__law_plain_line => k_is)
    (case h_l__law_plain_line => k_is)
    (case h_c__law_plain_line => k_is)
    (case h_k__law_plain_line => k_is)
    (case h_a__law_opening_line => k_is)
    (case h_l__law_opening_line => k_is)
    (case h_c__law_opening_line => k_is)
    (case h_k__law_opening_line => k_is)
    (case h_a__law_drawn_lines => k_is)
    (case h_l__law_drawn_lines => k_is)
    (case h_c__law_drawn_lines => k_is)
    (case h_k__law_drawn_lines => k_is)
    (case h_a__law_odd_line => k_is)
    (case h_l__law_odd_line => k_is)
    (case h_c__law_odd_line => k_is)
    (case h_k__law_odd_line => k_is)
    (case h_a__law_spoilt => k_is)
    (case h_l__law_spoilt => k_is)
    (case h_c__law_spoilt => k_is)
    (case h_k__law_spoilt => k_is)
    (case h_a__law_is_place => k_is)
    (case h_l__law_is_place => k_is)
    (case h_c__law_is_place => k_is)
    (case h_k__law_is_place => k_is)
    (case h_a__law_is_count => k_is)
    (case h_l__law_is_count => k_is)
    (case h_c__law_is_count => k_is)
    (case h_k__law_is_count => k_is)
    (case h_a__law_is_deed => k_is)
    (case h_l__law_is_deed => k_is)
    (case h_c__law_is_deed => k_is)
    (case h_k__law_is_deed => k_is)
    (case h_a__law_is_plain => k_is)
    (case h_l__law_is_plain => k_is)
    (case h_c__law_is_plain => k_is)
    (case h_k__law_is_plain => k_is)
    (case h_a__law_is_opening => k_is)
    (case h_l__law_is_opening => k_is)
    (case h_c__law_is_opening => k_is)
    (case h_k__law_is_opening => k_is)
    (case h_a__law_first_wrong => k_is)
    (case h_l__law_first_wrong => k_is)
    (case h_c__law_first_wrong => k_is)
    (case h_k__law_first_wrong => k_is)
    (case h_a__law_from_the_back => k_is)
    (case h_l__law_from_the_back => k_is)
    (case h_c__law_from_the_back => k_is)
    (case h_k__law_from_the_back => k_is)
    (case h_a__law_read => k_is)
    (case h_l__law_read => k_is)
    (case h_c__law_read => k_is)
    (case h_k__law_read => k_is)
    (case h_a_law => k_is)
    (case h_l_law => k_is)
    (case h_c_law => k_is)
    (case h_k_law => k_is)
    (case h_z_len => k_is)
    (case h_z_abs => k_is)
    (case h_z_int => k_is)
    (case h_z_str => k_is)
    (case h_z_all => k_is)
    (case h_z_isinstance => k_is)
    (case h_z_range => k_is)
    (case h_z_enumerate => k_is)
    (case h_z_tuple => k_is)
    (case h_z_list => k_is)
    (case h_z_dict => k_is)
    (case h_z_bool => k_is)
    (case h_q_LETTERS => k_is)
    (case h_q_DIGITS => k_is)
    (case h_q_STREET => k_is)
    (case h_q_LONGEST_NAME => k_is)
    (case h_q_LONGEST_NUMBER => k_is)
    (case h_q_MOST_DEEP => k_is)
    (case h_q_ALL => k_is)
    (case h_q_END => k_is)
    (case h_q_VERDICTS => k_is)
    (case h_l_VERDICTS => k_is)
    (case h_q_MOVES => k_is)
    (case h_l_MOVES => k_is)
    (case h_q_QUESTIONS => k_is)
    (case h_l_QUESTIONS => k_is)
    (case h_aC_BadLine => k_is)
    (case h_aB_BadLine => k_is)
    (case h_xL_BadLine => k_is)
    (case h_sa_BadLine => k_is)
    (case h_ga_BadLine => k_is)
    (case h_gg_BadLine => k_is)
    (case h_no_BadLine => k_is)
    (case h_iC_BadLine => k_is)
    (case h_tI_BadLine => k_is)
    (case h_lI_BadLine => k_is)
    (case h_cI_BadLine => k_is)
    (case h_kC_BadLine => k_is)
    (case h_eC_BadLine => k_is)
    (case h_vC_BadLine => k_is)
    (case h_tC_BadLine => k_is)
    (case h_hC_BadLine => k_is)
    (case h_sl_BadLine => k_is)
    (case h_su_BadLine => ks_is)
    (case h_op_BadLine => k_is)
    (case h_zs_BadLine => k_is)
    (case h_ce_BadLine => k_is)
    (case h_co_BadLine => k_is)
    (case h_v2_BadLine => rfl)
    (case h_vf_BadLine => decide +kernel)
    (case h_sC_BadLine => k_is)
    (case h_kB_BadLine => kit_is)
    (case h_cl_BadLine => k_is)
    (case h_sp_BadLine => k_is)
    (case h_tk_BadLine => k_is)
    (case h_mo_BadLine => k_is)
#print axioms PySem.Challenge.cw_ridesonce_k89_scripts_are_read_holds
