import PyProof.Rows.All
import Wide.All
import OpenK.AllK
import Wide.FinOn
import HandS.ForMost
import HandS.Wide
import HandS.ExcInit
import KE.KExcSuper
import HandS.ExcIs
import HandS.ExcValue
import HandS.ExcField
import HandS.MakeKw
import HandS.MakeKwOnly
import HandS.TupAny
import HandS.IsInst
import HandS.ListItems
import HandS.SortInts
import KE.KEqNest
import HandS.More
import HandS.Exc
import HandS.ExcOwn
import HandS.CallSlots
import PyProof.InstNe
import HandS.Style
import HandS.DictComp
import HandS.Codes
import HandS.Ends
import HandS.Defaults
import PySem.Challenge.RW_prepaidplans_k88_errors_are_distinct
set_option Elab.async false
set_option linter.all false
set_option maxRecDepth 100000
set_option maxHeartbeats 4000000
/-! An own exception's __init__ that says super().__init__(text), then keeps its argument: on the heap. -/
namespace PX
open PySem PySem.W PySem.Calls PyProof.Rows PySem.Spec
theorem tail_same : ∀ l : List Value, excTail HandSPX.veTail l = HandSPX.refsVE l
  | [] => rfl
  | .ref _ :: r => tail_same r
  | .none :: _ => rfl
  | .ellipsis :: _ => rfl
  | .notImplemented :: _ => rfl
  | .bool _ :: _ => rfl
  | .int _ _ :: _ => rfl
  | .float _ _ :: _ => rfl
  | .str _ _ :: _ => rfl
  | .bytes _ _ :: _ => rfl
  | .type _ :: _ => rfl
  | .builtin _ :: _ => rfl
theorem q_of {K : Frag} {C : Addr} (T : L2.OexC K C) : excInitIn K C HandSPX.veTail "ValueError.__new__" = true := by
  obtain ⟨c1, c2, c3, c4, bm, c5, c6, c7, c8, c9, d1, d2, d3, d4, d5, hC, hbm⟩ := T.cls
  unfold excInitIn
  rw [hC]
  show (C == C && ("ValueError.__new__" : String) == "ValueError.__new__" && !false && excTail HandSPX.veTail bm) = true
  rw [tail_same, hbm]
  simp
/-- the body: super().__init__(msg); self.f = f -/
abbrev xbody (f msg : Str) (k : Nat) (p0 p1 p2 p3 p4 p5 p6 p7 p8 p9 : Pos) : List Stmt :=
  [.Expr (.Call (.Attribute (.Call (.Name "super" p0) [] [] p1) "__init__" p2) [.Constant (.str msg) k p3] [] p4) p5, .Assign [.Attribute (.Name "self" p6) f p7] (.Name f p8) p9]
section
variable {prog : Program} {w : World} {A : Around} {s : Shared} {K : Frag} {mg mb : Str → Option Value} {h₀ : Heap} {C fI e t0 : Addr} {R : Result → Shared → Prop}
variable {nm qual f msg : Str} {params : Arguments} {scope : Scope} {dV kV doc pm ct oc ccl cl : Value} {an od cdd cld : Option Addr} {osl ccs csl : Array (Option Value)} {cc cda : Addr} {vs : Array Value} {file : Str} {tf : Tok} {ar : Arg} {k : Nat} {p0 p1 p2 p3 p4 p5 p6 p7 p8 p9 : Pos}
theorem init_run (T : L2.OexC K C) (X₀ : K.In h₀) (kp : ∀ b o, h₀.get? b = some o → s.heap.get? b = some o) (hx : s.heap.get? e = some (excObj C t0 none .none)) (h0 : h₀.get? e = none) (hsz : h₀.objs.size ≤ s.heap.objs.size) (lim : s.heap.NoLimit)
    (g : h₀.Ns mainGlobals mg) (b : h₀.Ns builtinsNs mb) (hb : ∀ x : Str, x ≠ "__name__" → mb x = bootBuiltins x) (hs : mg "super" = none)
    (lk : K.lookup fI = some ⟨oc, od, .func (ksFn nm qual params (xbody f msg k p0 p1 p2 p3 p4 p5 p6 p7 p8 p9) scope dV kV doc pm an (.ref cda) ct cc), osl⟩) (hcd : codeIn K (.ref cda) qual = true)
    (lc : K.lookup cda = some ⟨ccl, cdd, .fields vs, ccs⟩) (hvs : vs[2]? = some (.str file tf)) (hfile : ((prog.main.file : Str) == file) = true)
    (lcc : K.lookup cc = some ⟨cl, cld, .cell (some (.ref C)), csl⟩) (hm : ks_superIn K C C "__init__" = some (some (.builtin "ValueError.__init__"))) (ho : nsIn K cStatics "thirdparty.any" = some none) (hB : subIn K (.ref C) (.type "ValueError") = some true)
    (hno : findIn K (.ref C) f = some none) (hmro : mroIn K C (.ref C) = some true)
    (hp : (params.posonlyargs ++ params.args).head? = some ar) (har : ar.arg = "self") (htop : (prog.main.scope.names.lookup ("super" : Str)).isSome = false)
    (k1 : scope.names.lookup ("super" : Str) = some .globalImplicit) (k2 : scope.names.lookup ("__class__" : Str) = some .free) (k3 : scope.names.lookup ("self" : Str) = some .local) (k4 : scope.names.lookup f = some .local) (hcell : ∀ x ∈ scope.names, x.2 ≠ .cell) (hco : scope.isCoroutine = false) (hgen : scope.isGenerator = false) (hk : scope.kind = .function)
    (hpos : (p2.endLine == p4.line) = true) (hsf : ("self" : Str) ≠ f) (hd : (f == ("__debug__" : Str)) = false) {args : Args} {u : Value} (hroom : A.depth < recursionLimit) (hbind : BindsTo s (ksFn nm qual params (xbody f msg k p0 p1 p2 p3 p4 p5 p6 p7 p8 p9) scope dV kV doc pm an (.ref cda) ct cc) args [(("self" : Str), .ref e), (f, u)])
    (hq : ∀ (h' : Heap) (tk' : Nat) (dx t' : Addr), (∀ b o, h₀.get? b = some o → h'.get? b = some o) → h₀.get? dx = none → dx ≠ e → h'.get? e = some { cls := .ref C, dict := some dx, data := .fields #[.ref t', .none, .none, .none, .bool false, .none] } →
      h'.Ns1 dx (fun y => if y = f then some u else none) → R (.ok (.ret .none)) { s with heap := h', toks := tk' }) :
    codeAny (model prog w) A (.call (.ref fI) args) R s := by
  have Xs : K.In s.heap := X₀.keeps kp
  refine ks_codeAny_call_defAt (fd := ksFn nm qual params (xbody f msg k p0 p1 p2 p3 p4 p5 p6 p7 p8 p9) scope dV kV doc pm an (.ref cda) ct cc) (body := xbody f msg k p0 p1 p2 p3 p4 p5 p6 p7 p8 p9) (binds := [(("self" : Str), .ref e), (f, u)]) hroom (Xs _ _ lk) rfl lim (codeRec_of Xs hcd) rfl hbind hcell (fun x hx => ?_) (fun h₁ hns hk₁ => ?_) hco hgen hk
  · simp only [List.mem_cons, List.not_mem_nil, or_false] at hx
    rcases hx with rfl | rfl
    · exact k3
    · exact k4
  show _root_.PySem.wpAt _ _ (.func _ (ksEnv qual scope s.heap.objs.size fI (.ref cda) cc)) (execs (xbody f msg k p0 p1 p2 p3 p4 p5 p6 p7 p8 p9) (ksEnv qual scope s.heap.objs.size fI (.ref cda) cc)) _ _ _
  have F1 : Fr h₀ s.heap.objs.size h₁ (fun x => [(("self" : Str), Value.ref e), (f, u)].reverse.lookup x) := ⟨hns, fun b o q => hk₁ b o (kp b o q), hsz⟩
  have N1 : News h₀ s.heap.objs.size h₁ [(e, excObj C t0 none .none)] := fun p hp => by
    simp only [List.mem_cons, List.not_mem_nil, or_false] at hp
    subst hp
    exact ⟨hk₁ _ _ hx, Nat.ne_of_lt (Heap.lt_size hx), h0⟩
  have X1 : K.In h₁ := Xs.keeps hk₁
  have I1 : InstAt h₁ e (excObj C t0 none .none) C none := InstAt.of_exc0 N1 (by simp)
  have lself : [(("self" : Str), Value.ref e), (f, u)].reverse.lookup ar.arg = some (.ref e) := by
    rw [har]
    show List.lookup ("self" : Str) [(f, u), (("self" : Str), Value.ref e)] = _
    rw [List.lookup_cons, show (("self" : Str) == f) = false by simpa using hsf]
    simp [List.lookup]
  obtain ⟨nm', q', N', bs, bm, sn, sub, ab, col, dd, s0, s1, s2, s3, s5, hC, hbm⟩ := T.cls
  have hC1 := X1 _ _ hC
  have hint : interactive (ksEnv qual scope s.heap.objs.size fI (.ref cda) cc) = false := by
    unfold interactive
    simp [hk]
  have hev : eval (.Call (.Attribute (.Call (.Name "super" p0) [] [] p1) "__init__" p2) [.Constant (.str msg) k p3] [] p4) (ksEnv qual scope s.heap.objs.size fI (.ref cda) cc) = (do
      let ov ← attributeBase (.Call (.Name "super" p0) [] [] p1) "__init__" (ksEnv qual scope s.heap.objs.size fI (.ref cda) cc) (eval (.Call (.Name "super" p0) [] [] p1) (ksEnv qual scope s.heap.objs.size fI (.ref cda) cc))
      standAt p2.atName
      let (f, first) ← holding [ov] (getMethod ov "__init__" (do return (← importBound (.Call (.Name "super" p0) [] [] p1) (ksEnv qual scope s.heap.objs.size fI (.ref cda) cc)).getD true))
      callWith p4 f first (backTo p4 (starEach [.Constant (.str msg) k p3] (ksEnv qual scope s.heap.objs.size fI (.ref cda) cc))) []) := by
    show (do
      let ov ← attributeBase (.Call (.Name "super" p0) [] [] p1) "__init__" (ksEnv qual scope s.heap.objs.size fI (.ref cda) cc) (eval (.Call (.Name "super" p0) [] [] p1) (ksEnv qual scope s.heap.objs.size fI (.ref cda) cc))
      standAt p2.atName
      methodCall (.Call (.Name "super" p0) [] [] p1) "__init__" p2 p4 (ksEnv qual scope s.heap.objs.size fI (.ref cda) cc) ov 1 (backTo p4 (starEach [.Constant (.str msg) k p3] (ksEnv qual scope s.heap.objs.size fI (.ref cda) cc))) []) = _
    unfold methodCall methodCallPos
    rw [hpos, Bool.or_true]
    rfl
  refine ks_wpAt_execs_cons (ks_wpAt_Expr_any (ks_wpAt_MethodCall (pl := (do return (← importBound (.Call (.Name "super" p0) [] [] p1) (ksEnv qual scope s.heap.objs.size fI (.ref cda) cc)).getD true)) ?_ hev) (hi := hint))
  refine ks_wpAt_super_base (env := ksEnv qual scope s.heap.objs.size fI (.ref cda) cc) k1 k2 (by decide) rfl (X1 _ _ lk) rfl hp rfl (X1 _ _ lc) rfl hvs hfile htop ?_
  refine ks_loadName_global hk k1 (loadGlobal_builtin (env := ksEnv qual scope s.heap.objs.size fI (.ref cda) cc) (g.keeps F1.keep) hs (b.keeps F1.keep) ((hb _ (by decide +kernel)).trans rfl) ⟨rfl, ?_⟩)
  refine wpAny_loadName_free hk k2 rfl ⟨_, X1 _ _ lcc, rfl⟩ ?_
  refine wpAny_loadName_local hk (by rw [har]; exact k3) hns lself ?_
  refine ks_wpAny_isType_cls hC1 rfl ⟨rfl, ?_⟩
  refine ks_wpAny_call_super hC1 rfl I1.at_ I1.cls (fun c z => ?_) (looks_mroIn X1 hmro) (fun h2 e2 kk => ?_)
  · have := I1.no
    unfold notCls at this
    rw [z] at this
    exact Bool.noConfusion this
  obtain ⟨F2, N2, l2⟩ := ks_newsPush (s := { s with heap := h₁, toks := s.toks + 2 }) F1 N1 rfl e2 kk
  have X2 : K.In h2 := X₀.keeps F2.keep
  refine kxs_method (s := ⟨h2, s.gens, s.drawn, s.toks + 2, s.os⟩) (so := h₁.objs.size) (D := C) (ox := excObj C t0 none .none) (odx := none) kxs_ValueError F2 X₀ N2 List.mem_cons_self (InstAt.of_exc0 N2 (.tail _ List.mem_cons_self)) ho hm hB (by decide) (fun q3 h3 F3 N3 l3 => ?_)
  refine kxs_callWith1 (s := ⟨h3, s.gens, s.drawn, s.toks + 2 + 1, s.os⟩) (i := "ValueError.__init__") (x := e) N3 List.mem_cons_self ?_
  show wpAny _ _ (spliced ((false, eval (.Constant (.str msg) k p3) (ksEnv qual scope s.heap.objs.size fI (.ref cda) cc)) :: backTo p4 (starEach [] (ksEnv qual scope s.heap.objs.size fI (.ref cda) cc)))) _ _ _
  refine spliced_cons ?_
  refine wpAny_Constant_str ?_
  refine spliced_nil ⟨kxs_at N3 List.mem_cons_self, ?_⟩
  have U3 : UpdF e (excObj C t0 none .none) [(q3, kxs_mw "ValueError.__init__" e), (h₁.objs.size, ks_superObj C e C), (e, excObj C t0 none .none)] (fun o' => [(q3, kxs_mw "ValueError.__init__" e), (h₁.objs.size, ks_superObj C e C), (e, o')]) := by
    refine .tail ?_ (.tail ?_ (.head fun p hp => (by cases hp)))
    · exact Nat.ne_of_gt (l3 (e, excObj C t0 none .none) (.tail _ List.mem_cons_self))
    · exact Nat.ne_of_gt (l2 (e, excObj C t0 none .none) List.mem_cons_self)
  refine kxs_call (s := ⟨h3, s.gens, s.drawn, s.toks + 2 + 1 + 1, s.os⟩) F3 X₀ N3 F.excBase_ValueError (q_of T) List.mem_cons_self U3 (by rw [sizeLine_eq]; simp) (fun t' h4 F4 N4 l4 => ?_)
  refine ks_wpAt_execs_cons (ks_wpAt_Assign_Attr (wpAt_of_wpAny ?_))
  have lf : [(("self" : Str), Value.ref e), (f, u)].reverse.lookup f = some u := by
    show List.lookup f [(f, u), (("self" : Str), Value.ref e)] = _
    simp [List.lookup]
  refine wpAny_Name (wpAny_loadName_local hk k4 F4.ns lf ?_) hd
  have lse : [(("self" : Str), Value.ref e), (f, u)].reverse.lookup ("self" : Str) = some (.ref e) := by
    have z := lself
    rw [har] at z
    exact z
  refine wpAny_Name (wpAny_loadName_local hk k3 F4.ns lse ?_) (by decide)
  have X4 : K.In h4 := X₀.keeps F4.keep
  have e4 : h4.get? e = some (excObj C t' none .none) := (N4 (e, excObj C t' none .none) (.tail _ (.tail _ (.tail _ List.mem_cons_self)))).1
  have hcl : clsIn K C = some { name := nm', bases := bs, mro := .ref C :: bm, ns := N', qualname := q', hasDict := true, slotNames := sn, subclasses := sub, abstract := ab, collection := col, hasDel := false } := by
    unfold clsIn
    rw [hC] <;> rfl
  refine set_plain (s := ⟨h4, s.gens, s.drawn, s.toks + 2 + 1 + 1, s.os⟩) X4 (ox := excObj C t' none .none) (od := none) ⟨e4, rfl, rfl, trivial⟩ T.sa ?_
  refine HandSPX.exc_osa X4 e4 hcl (show HandSPX.refsVE (.ref C :: bm) = true from hbm) rfl hno (fun h5 tk5 dx kk5 dn dne hx5 hn5 => ?_)
  have hdx : h₀.get? dx = none := by
    cases z : h₀.get? dx with
    | none => rfl
    | some o => exact absurd (Heap.lt_size (F4.keep _ _ z)) (Nat.not_lt.mpr dn)
  refine wpAt_of_wpAny (wpAny_pure ?_)
  exact hq h5 tk5 dx t' (fun b o z => kk5 b o (fun y => by rw [y, h0] at z; cases z) (F4.keep b o z)) hdx dne hx5 hn5
end
end PX
/-! C(..) of an own exception class, with keywords too: on the heap. -/
namespace PX
open PySem PySem.W PySem.Calls PyProof.Rows PySem.Spec PySem.HandSPX
section
variable {M : Model} {A : Around} {E : Value → Shared → Prop} {h : Heap} {gs : Array GenState} {dr : Drawn} {tk : Nat} {os : OsState}
variable {nm ql : Str} {C N : Addr} {bs bm bmB : List Value} {hdc : Bool} {sn : List Str} {sub : List Value} {ab : Bool} {col : Option Bool} {dd : Option Addr} {s0 s1 s2 s3 s5 : Option Value} {B newId initId : String}
theorem ck_new (F : ExcBaseFacts B newId initId bmB) (hT : ∀ X : String, bm.contains (.type X) = bmB.contains (.type X)) {rest : List Value} {kw : List (Str × Value)} {Q : Unit → Shared → Prop}
    (hC : h.get? C = some (excClassObj nm ql C N bs bm hdc sn sub ab col dd s0 s1 s2 s3 s5 newId)) (hq : Q () ⟨h, gs, dr, tk, os⟩) : wpAny M A (checkBuiltinCall newId ⟨.ref C :: rest, kw⟩) Q E ⟨h, gs, dr, tk, os⟩ := by
  have hin : (Value.ref C :: bm).contains (.type B) = true := by rw [List.contains_cons, hT, F.hasB, Bool.or_true]
  have st := F.noStar
  simp only [checkBuiltinCall, F.newKind, F.newSplit, F.newRow]
  repeat (first | refine wpAny_loadPart_at hC ?_ | (refine wpAny_isSubtype_exc hC ?_; rw [hin]) | refine wpAny_staticBase_exc hC ?_ | refine wpAny_madeBy_exc hC ?_ | simp only [bne_self_eq_false, Bool.false_eq_true, if_false] | wp_step)
  exact hq
theorem ck_tc {rest : List Value} {kw : List (Str × Value)} {Q : Unit → Shared → Prop} (hC : h.get? C = some (excClassObj nm ql C N bs bm hdc sn sub ab col dd s0 s1 s2 s3 s5 newId))
    (hq : Q () ⟨h, gs, dr, tk, os⟩) : wpAny M A (checkBuiltinCall "type.__call__" ⟨.ref C :: rest, kw⟩) Q E ⟨h, gs, dr, tk, os⟩ := by
  have tsub := tc_sub
  have hTy : (⟨h, gs, dr, tk, os⟩ : Shared).TypeIs (.ref C) "type" := ⟨_, hC, rfl⟩
  simp only [checkBuiltinCall, tc_kind, tc_split]
  repeat (any_goals (first | assumption | with_reducible refine wpAny_loadPart_at hC ?_ | (with_reducible refine wpAny_onRaise ?_) | (with_reducible refine wpAny_map ?_) | wp_step))
end
section
variable {prog : Program} {w : World} {A : Around} {E : Value → Shared → Prop} {R : Result → Shared → Prop} {h : Heap} {gs : Array GenState} {dr : Drawn} {tk : Nat} {os : OsState}
variable {nm ql : Str} {C N : Addr} {bs bm bmB : List Value} {hdc : Bool} {sn : List Str} {sub : List Value} {ab : Bool} {col : Option Bool} {dd : Option Addr} {s0 s1 s2 s3 s5 : Option Value} {B newId initId : String}
theorem new_kw (F : ExcBaseFacts B newId initId bmB) (hT : ∀ X : String, bm.contains (.type X) = bmB.contains (.type X)) {rest : List Value} {kw : List (Str × Value)}
    (hC : h.get? C = some (excClassObj nm ql C N bs bm hdc sn sub ab col dd s0 s1 s2 s3 s5 newId))
    (hq : R (.ok (.ret (.ref (h.objs.size + 1)))) ⟨(h.push (W.kdv_tup rest)).push (excO C h.objs.size), gs, dr, tk, os⟩) (hrest : rest.length ≤ sizeLine) :
    codeAny (model prog w) A (.builtin newId ⟨.ref C :: rest, kw⟩) R ⟨h, gs, dr, tk, os⟩ := by
  have he := F.ends
  have inB : (Value.ref C :: bm).contains (.type B) = true := by rw [List.contains_cons, hT, F.hasB, Bool.or_true]
  have inA : (Value.ref C :: bm).contains (.type "AttributeError") = false := by rw [List.contains_cons, hT, F.noAttr]; rfl
  have inN : (Value.ref C :: bm).contains (.type "NameError") = false := by rw [List.contains_cons, hT, F.noName]; rfl
  refine codeAny_builtinAt F.entry ?_
  unfold Builtin.«BaseException.__new__»
  refine PySem.wpAt_bind ?_
  show PySem.wpAt _ _ _ (stack >>= _) _ _ _
  refine PySem.wpAt_bind (PySem.wpAt_stack fun p below => PySem.wpAt_of_wpAny ?_)
  wp_walk
  refine PySem.wpAt_of_wpAny ?_
  rw [F.owner]
  repeat (first | (with_reducible refine wpAny_madeHere_exc F.canon hC ?_) | (with_reducible refine wpAny_loadPart_at hC ?_) | (with_reducible refine wpAny_isSubtype_exc hC ?_; first | rw [inB] | rw [inA] | rw [inN]) | wp_step)
  show R _ _
  rw [Heap.size_push]
  exact hq
theorem tc_kw (F : ExcBaseFacts B newId initId bmB) (hT : ∀ X : String, bm.contains (.type X) = bmB.contains (.type X)) {rest : List Value} {kw : List (Str × Value)} {fI : Addr} {Q : Fin → Shared → Prop}
    (hC : h.get? C = some (excClassObj nm ql C N bs bm hdc sn sub ab col dd s0 s1 s2 s3 s5 newId))
    (hi : W.Looks (model prog w) h (typeLookup (.ref C) "__init__") (some (.ref fI))) (hb : ∀ self, W.Looks (model prog w) h (bindSpecial (.ref fI) self) (.ref fI, [self])) (hrest : rest.length ≤ sizeLine)
    (hq : codeAny (model prog w) A (.call (.ref fI) ⟨.ref (h.objs.size + 1) :: rest, kw⟩)
      (fun r s' => match r with | .ok (.ret v) => v = .none ∧ Q (.done (.ret (.ref (h.objs.size + 1)))) s' | .ok _ => False | .error e => E e s')
      ⟨(h.push (W.kdv_tup rest)).push (excO C h.objs.size), gs, dr, tk, os⟩) :
    wpAny (model prog w) A (Builtin.«type.__call__» ⟨.ref C :: rest, kw⟩) Q E ⟨h, gs, dr, tk, os⟩ := by
  repeat (first | (with_reducible refine wpAny_loadPart_at hC ?_) | (with_reducible refine wpAny_madeBy_exc hC ?_) | wp_step)
  refine codeAny_call_builtin_code (Code.quiet_builtin _ F.quiet) (ck_new F hT hC ?_)
  refine new_kw F hT hC ?_ hrest
  show wpAny _ _ _ _ _ _
  have kp : ∀ b o, h.get? b = some o → ((h.push (W.kdv_tup rest)).push (excO C h.objs.size)).get? b = some o := fun b o z => Heap.get?_push_of_some _ (Heap.get?_push_of_some _ z)
  have hC2 := kp _ _ hC
  have hg : ((h.push (W.kdv_tup rest)).push (excO C h.objs.size)).get? (h.objs.size + 1) = some (excO C h.objs.size) := by heap_get
  have self_in : (Value.ref C :: bm).contains (.ref C) = true := by simp
  have ii := hi.keeps kp
  have bb := (hb (.ref (h.objs.size + 1))).keeps kp
  unfold isInstance
  repeat (first | (with_reducible refine wpAny_loadPart_at hg ?_) | (with_reducible refine wpAny_isSubtype_exc hC2 ?_; rw [self_in]) | wp_step)
  show wpAny _ _ (typeLookup (.ref C) _) _ _ _
  refine ii.at ?_
  refine wpAny_holding (wpAny_bind (bb.at ?_))
  refine wpAny_bind (wpAny_call (codeAny_mono hq fun r s' z => ?_))
  rcases r with e | (v | _ | _ | _) <;> first | exact z | exact z.elim | skip
  obtain ⟨rfl, z⟩ := z
  first
    | exact wpAny_pure (wpAny_pure z)
    | (wp_walk; exact z)
theorem call_kw (F : ExcBaseFacts B newId initId bmB) (hT : ∀ X : String, bm.contains (.type X) = bmB.contains (.type X)) {rest : List Value} {kw : List (Str × Value)} {fI : Addr}
    (hC : h.get? C = some (excClassObj nm ql C N bs bm hdc sn sub ab col dd s0 s1 s2 s3 s5 newId))
    (hi : W.Looks (model prog w) h (typeLookup (.ref C) "__init__") (some (.ref fI))) (hb : ∀ self, W.Looks (model prog w) h (bindSpecial (.ref fI) self) (.ref fI, [self])) (hrest : rest.length ≤ sizeLine)
    (hq : codeAny (model prog w) (A.under (.builtin "type.__call__" ⟨.ref C :: rest, kw⟩)) (.call (.ref fI) ⟨.ref (h.objs.size + 1) :: rest, kw⟩) (W.InitBack (h.objs.size + 1) R)
      ⟨(h.push (W.kdv_tup rest)).push (excO C h.objs.size), gs, dr, tk, os⟩) :
    codeAny (model prog w) A (.call (.ref C) ⟨rest, kw⟩) R ⟨h, gs, dr, tk, os⟩ := by
  have t1 := tc_lookup
  have t2 := tc_bind (.ref C)
  have hTy : (⟨h, gs, dr, tk, os⟩ : Shared).TypeIs (.ref C) "type" := ⟨_, hC, rfl⟩
  refine codeAny_of_tree ?_
  show wpAny _ _ (callAny (.ref C) _) _ _ _
  repeat (any_goals (first | assumption | (with_reducible refine wpAny_loadPart_at hC ?_) | wp_step))
  refine ⟨rfl, ?_⟩
  refine codeAny_call_builtin_at (Code.quiet_builtin _ (by decide +kernel)) entry_typeCall (ck_tc hC (tc_kw F hT hC hi hb hrest ?_))
  refine codeAny_mono hq fun r s' z => ?_
  rcases r with e | (v | _ | _ | _) <;> exact z
end
end PX
/-! isinstance of an own exception that has a dict; its fields. -/
namespace PX
open PySem PySem.W PySem.Spec PyProof.Rows
section
variable {prog : Program} {w : World} {A : Around} {E : Value → Shared → Prop} {s : Shared} {K : Frag} {x D : Addr} {ox : Obj} {od : Option Obj}
theorem dataAny {C : Addr} {n : Str} {a g : Value} (hc : (clsIn K C).isSome = true) (ha : findIn K (.ref C) n = some (some a)) (hg : specialIn K a "__get__" = some (some g)) (ht : takesIn K a = some true) : findObj K C od n = some (.bind g a) := by
  obtain ⟨cd, hc⟩ := Option.isSome_iff_exists.mp hc
  unfold findObj
  rw [hc, Option.bind_some, ha, Option.bind_some] <;> simp [hg, ht]
theorem kinE {Q : Option Value → Shared → Prop} (T : L2.ExcC K D) (X : K.In s.heap) (I : InstAt s.heap x ox D od) (hq : Q (some (.ref D)) { s with toks := s.toks + 1 }) : wpAny (model prog w) A (getAttr? (.ref x) "__class__") Q E s := by
  have fo : findObj K D od "__class__" = some (.bind (.builtin "getset_descriptor.__get__") (.builtin "object.__class__")) := dataAny (by obtain ⟨cd, hc, _⟩ := any_some T.hd; rw [hc]; rfl) T.ha T.hn T.ht
  obtain ⟨hp, gs, dr, tk, os⟩ := s
  have la := I.type (M := model prog w)
  have lb := looks_findIn (M := model prog w) X T.hg
  have lc := looks_findIn (M := model prog w) X T.hk
  have ld := looks_find (M := model prog w) X I fo
  have isE : Looks (model prog w) hp (isInstance (.ref x) (.type "BaseException")) true := la.andThen (looks_subIn X T.hs)
  have n0 : (false && onTheHeap (Value.builtin "BaseException.__getattribute__")) = false := rfl
  have n2 : (Value.builtin "BaseException.__getattribute__" == Value.builtin "object.__getattribute__") = false := by decide +kernel
  have n1 : (onTheHeap (Value.ref D) && Value.builtin "BaseException.__getattribute__" == Value.builtin "object.__getattribute__") = false := by rw [n2]; rfl
  unfold getAttr? getAttrBy? getAttrBy; refine wpAny_bind (wpAny_mkText (wpAny_bind (wpAny_attempt (wpAny_holding (wpAny_bind (la.at (wpAny_bind (lb.at ?_))))))))
  show wpAny _ _ (if (onTheHeap (Value.ref D) && Value.builtin "BaseException.__getattribute__" == Value.builtin "object.__getattribute__") = true then _ else _) _ _ _; rw [n1, if_neg Bool.false_ne_true]
  unfold getAttrByItsOwn hookBefore; refine wpAny_bind ?_
  rw [if_pos (show onTheHeap (Value.ref D) = true from rfl)]; refine lc.at ?_
  refine wpAny_bind (wpAny_attempt (wpAny_holding ?_)); unfold callGetattribute
  rw [n0, if_neg Bool.false_ne_true]; unfold boundAndCalled
  rw [PySem.F.excAttr_ValueError.ga.bind (.ref x)]; refine wpAny_bind (wpAny_pure ?_)
  show wpAny _ _ (call (.builtin "BaseException.__getattribute__") [.ref x, .str "__class__" tk]) _ _ _
  refine wpAny_call (codeAny_call_builtin PySem.F.excAttr_ValueError.ga.plain PySem.F.entry_bexc_ga ?_); refine @check_slot (model prog w) _ _ ⟨hp, gs, dr, tk + 1, os⟩ "BaseException.__getattribute__" "BaseException" "__getattribute__" (.ref x) [.str "__class__" tk] [] _ (by decide +kernel) (by decide +kernel) isE (PySem.F.args_bexc_ga (.ref x) (.str "__class__" tk)) ?_
  unfold Builtin.«object.__getattribute__»; refine wpAny_bind (wpAny_of_eq (a := ((Value.ref x : Value), [Value.str "__class__" tk])) (by first | rfl | (simp only [slotArgs]; rfl)) ?_)
  refine wpAny_bind (wpAny_pure (wpAny_bind (la.at (wpAny_bind (ld.at ?_)))))
  show wpAny _ _ (holding [Value.builtin "object.__class__"] (call (.builtin "getset_descriptor.__get__") [.builtin "object.__class__", .ref x, .ref D]) >>= ret) _ _ _; refine wpAny_bind (wpAny_holding (wpAny_call (class_get (s := ⟨hp, gs, dr, tk + 1, os⟩) (ox := ox) (od := od) X I T.hm ?_)))
  refine wpAny_pure ?_; show wpAny _ _ (handedOut (.ref D)) _ _ _
  rw [handedOut_of (v := .ref D) rfl]; first | exact wpAny_pure (wpAny_pure hq) | exact wpAny_pure hq | exact wpAny_pure (wpAny_bind (wpAny_pure (wpAny_pure hq)))
theorem kitE (T : L2.ExcC K D) : KitX K (.ref x) (.ref D) (fun h => InstAt h x ox D od) where
  ty := fun _ _ _ I => I.type
  it := fun M h X _ => by
    obtain ⟨cd, hc, _⟩ := any_some T.hd; unfold clsIn at hc
    split at hc
    · rename_i c2 d2 e2 f2 lk; exact fun A2 Q2 E2 s2 kk q2 => by unfold isType loadHead; exact wpAny_bind (wpAny_loadPart (kk _ _ (X _ _ lk)) (wpAny_pure q2))
    · cases hc
  ne := (handS_kitx_exc (x := x) (ox := ox) T.hg T.hk T.hs T.hd T.ha T.hn T.ht T.hm).ne
  ca := fun X I k => kinE T X I k
end
end PX

namespace PX
open PySem PySem.Spec PyProof.Rows L2
/-- the object behind exo, its dict behind exd -/
theorem exo_inst {P : Program} {w : World} {H : Hp} {h : Heap} {e C : Addr} (hok : HOk P w H h) (he : H e = some (exo e C none)) : ∃ ox, PySem.W.InstAt h e ox C none := by
  obtain ⟨t1, q⟩ := exo_at hok he
  exact ⟨_, q, rfl, rfl, trivial⟩
theorem exo_instD {P : Program} {w : World} {H : Hp} {h : Heap} {e C dx : Addr} {fs : List (Str × V)} (hok : HOk P w H h) (he : H e = some (exo e C (some dx))) (hd : H dx = some (exd dx fs)) : ∃ ox od mA, PySem.W.InstAt h e ox C (some od) ∧ h.Ns1 dx mA ∧ h.get? dx = some od ∧ ∀ f, RelO (fs.lookup f) (mA f) := by
  obtain ⟨t1, q⟩ := exo_at hok he
  obtain ⟨mA, hn, hr⟩ := exd_at hok hd
  obtain ⟨od, es, ep, e1, e2⟩ := id hn
  exact ⟨_, od, mA, ⟨q, rfl, rfl, e1⟩, hn, e1, hr⟩
/-- an exception that is held: its class, its fields -/
def ExV (H : Hp) (C : Addr) (fs : List (Str × V)) (a : Addr) : Prop := (fs = [] ∧ H a = some (exo a C none)) ∨ ∃ dx, H a = some (exo a C (some dx)) ∧ H dx = some (exd dx fs)
/-- isinstance(e, c) -/
def rIsX (K : PySem.W.Frag) : List V → Hp → VK → Prop := fun xs H Q => ∃ (a D : Addr) (fs : List (Str × V)) (c : V) (cv : Value) (b : Bool), xs = [.ref a, c] ∧ ExV H D fs a ∧ ExcC K D ∧ (∀ u, RelV c u → u = cv) ∧ PySem.W.kitOne K (.ref D) cv = some b ∧ Q (.bl b) H
theorem call_isX {X : Cx} : CallR X (.builtin "isinstance") (rIsX X.K) := by
  intro pins s σ H xs us Q I r h
  obtain ⟨a, D, fs, c, cv, b, rfl, ex, T, hcv, e, q⟩ := h
  obtain ⟨u1, u2, rfl, r1, r2⟩ : ∃ u1 u2, us = [u1, u2] ∧ RelV (.ref a) u1 ∧ RelV c u2 := by
    cases r with
    | cons rx rr => cases rr with
      | cons rt rr => cases rr; exact ⟨_, _, rfl, rx, rt⟩
  obtain rfl : u1 = .ref a := r1
  obtain rfl := hcv _ r2
  have go : ∀ (ox : Obj) (od : Option Obj), PySem.W.InstAt s.heap a ox D od → wpAny (model X.prog X.w) X.A (call (.builtin "isinstance") [.ref a, u2]) (EP X pins σ Q) X.xe s := fun ox od J =>
    PySem.W.kia_one (kitE T) I.kIn J e (fun z => nomatch z) fun tk => ⟨.bl b, H, I.kept (t' := tk) fun _ _ z => z, rfl, q⟩
  rcases ex with ⟨_, ea⟩ | ⟨dx, ea, ed⟩
  · obtain ⟨ox, J⟩ := exo_inst I.hok ea
    exact go _ _ J
  · obtain ⟨ox, od, mA, J, _⟩ := exo_instD I.hok ea ed
    exact go _ _ J
/-- e.f -/
theorem pe_xget {X : Cx} {e : Expr} {te : TE} {pos : Pos} {n : Str} (he : PE X e te) (hb : attributeBase e n X.env (eval e X.env) = eval e X.env := by rfl) :
    PE X (.Attribute e n pos) (fun σ H Q => te σ H fun x H1 => ∃ (a C dx : Addr) (fs : List (Str × V)) (v : V), x = .ref a ∧ XfC X.K C ∧ PySem.W.findIn X.K (.ref C) n = some none ∧ H1 a = some (exo a C (some dx)) ∧ H1 dx = some (exd dx fs) ∧ fs.lookup n = some v ∧ Q v H1) := by
  refine ⟨fun pins s σ H Q I h => ?_⟩
  refine attr_of hb (thn (he.run pins s σ H _ I h) fun u s1 hh => ?_)
  obtain ⟨x, H1, I1, rx, a, C, dx, fs, v, ex, T, hno, ea, ed, l, q⟩ := hh
  subst ex
  obtain rfl : u = Value.ref a := rx
  obtain ⟨ox, od, mA, J, hns, hod, hr⟩ := exo_instD I1.hok ea ed
  obtain ⟨od', ho, hl⟩ := lookIn_ns hns
  rw [hod] at ho
  cases ho
  obtain ⟨u, hu, ru⟩ := RelO.some_of (v := v) (o := mA n) (by rw [← l]; exact hr n)
  exact HandSPX.exc_get I1.kIn J T.ga T.gg T.exC (PySem.W.findObj_own T.hdC hno rfl (by rw [hl, hu])) (handed_of ru) ⟨v, H1, I1.tok _, ru, q⟩
end PX
/-! C(..): a new exception as a value. -/
namespace PX
open PySem PySem.Spec PyProof.Rows L2
/-- what the written part says of the class C, whose __init__ at fI says super().__init__(..) and keeps its argument as f -/
structure XInit (P : Program) (K : PySem.W.Frag) (mg : Str → Option Value) (C fI : Addr) (f : Str) : Prop where
  T : OexC K C
  ini : PySem.W.findIn K (.ref C) "__init__" = some (some (.ref fI))
  ty : PySem.W.typeIn K (.ref fI) = some (.type "function")
  hs : mg "super" = none
  hm : PySem.W.ks_superIn K C C "__init__" = some (some (.builtin "ValueError.__init__"))
  ho : PySem.W.nsIn K cStatics "thirdparty.any" = some none
  hB : PySem.W.subIn K (.ref C) (.type "ValueError") = some true
  hno : PySem.W.findIn K (.ref C) f = some none
  hmro : PySem.W.mroIn K C (.ref C) = some true
  top : (P.main.scope.names.lookup ("super" : Str)).isSome = false
  sf : ("self" : Str) ≠ f
  hd : (f == ("__debug__" : Str)) = false
  fn : ∃ (nm qual msg : Str) (params : Arguments) (scope : Scope) (dV kV doc pm ct oc : Value) (an od : Option Addr) (osl : Array (Option Value)) (cc cda : Addr) (k : Nat) (p0 p1 p2 p3 p4 p5 p6 p7 p8 p9 : Pos),
    K.lookup fI = some ⟨oc, od, .func (PySem.W.ksFn nm qual params (xbody f msg k p0 p1 p2 p3 p4 p5 p6 p7 p8 p9) scope dV kV doc pm an (.ref cda) ct cc), osl⟩ ∧ PySem.W.codeIn K (.ref cda) qual = true ∧
    (∃ (ccl : Value) (cdd : Option Addr) (vs : Array Value) (ccs : Array (Option Value)) (file : Str) (tf : Tok), K.lookup cda = some ⟨ccl, cdd, .fields vs, ccs⟩ ∧ vs[2]? = some (.str file tf) ∧ ((P.main.file : Str) == file) = true) ∧
    (∃ (cl : Value) (cld : Option Addr) (csl : Array (Option Value)), K.lookup cc = some ⟨cl, cld, .cell (some (.ref C)), csl⟩) ∧ (∃ ar : Arg, (params.posonlyargs ++ params.args).head? = some ar ∧ ar.arg = "self") ∧
    (scope.names.lookup ("super" : Str) = some .globalImplicit ∧ scope.names.lookup ("__class__" : Str) = some .free ∧ scope.names.lookup ("self" : Str) = some .local ∧ scope.names.lookup f = some .local ∧ (∀ x ∈ scope.names, x.2 ≠ .cell) ∧ scope.isCoroutine = false ∧ scope.isGenerator = false ∧ scope.kind = .function) ∧
    (p2.endLine == p4.line) = true ∧
    (∀ (s : Shared) (e u : Value), BindsTo s (PySem.W.ksFn nm qual params (xbody f msg k p0 p1 p2 p3 p4 p5 p6 p7 p8 p9) scope dV kV doc pm an (.ref cda) ct cc) ⟨[e, u], []⟩ [(("self" : Str), e), (f, u)]) ∧
    (∀ (s : Shared) (e u : Value), BindsTo s (PySem.W.ksFn nm qual params (xbody f msg k p0 p1 p2 p3 p4 p5 p6 p7 p8 p9) scope dV kV doc pm an (.ref cda) ct cc) ⟨[e], [(f, u)]⟩ [(("self" : Str), e), (f, u)])
section
variable {X : Cx} {pins : List (Addr × Obj)} {σ : L2.St} {H : Hp} {s : Shared} {C fI : Addr} {f : Str} {v : V} {u : Value} {Q : VK}
/-- two new things: the exception, its dict -/
theorem two_new {h' : Heap} {tk' : Nat} {a dx t1 : Addr} (I : Inv X pins σ H s) (kp : ∀ b o, s.heap.get? b = some o → h'.get? b = some o) (na : s.heap.get? a = none) (nd : s.heap.get? dx = none) (ne : dx ≠ a) (ry : RelV v u)
    (hx : h'.get? a = some ({ cls := .ref C, dict := some dx, data := .fields #[.ref t1, .none, .none, .none, .bool false, .none] } : Obj)) (hn : h'.Ns1 dx (fun y => if y = f then some u else none)) :
    H a = none ∧ H dx = none ∧ Inv X pins σ (upd (upd H dx (exd dx [(f, v)])) a (exo a C (some dx))) { s with heap := h', toks := tk' } := by
  have Ha : H a = none := I.hok.gone na
  have Hd : H dx = none := I.hok.gone nd
  refine ⟨Ha, Hd, ?_⟩
  have off : ∀ {b : Addr} {o : HO}, H b = some o → b ≠ a ∧ b ≠ dx := fun {b o} z => ⟨fun q => (by rw [q, Ha] at z; cases z), fun q => (by rw [q, Hd] at z; cases z)⟩
  have ofh : ∀ {b : Addr} {o : Obj}, s.heap.get? b = some o → b ≠ a ∧ b ≠ dx := fun {b o} z => ⟨fun q => (by rw [q, na] at z; cases z), fun q => (by rw [q, nd] at z; cases z)⟩
  have ke : ∀ {b : Addr}, b ≠ a → b ≠ dx → upd (upd H dx (exd dx [(f, v)])) a (exo a C (some dx)) b = H b := fun {b} h1 h2 => by rw [upd_ne h1, upd_ne h2]
  have U : Un X.fs [] H (upd (upd H dx (exd dx [(f, v)])) a (exo a C (some dx))) s.heap h' := {
    keep := fun b o q _ _ _ => kp b o q
    slot := fun b o q _ _ _ => ⟨o.slots, kp b o q⟩
    free := fun b o q n _ => by rw [ke (ofh q).1 (ofh q).2]; exact n
    there := fun b o q _ => ⟨o, kp b o q⟩
    tups := fun b xs q => by rw [ke (off q).1 (off q).2]; exact q
    frzs := fun b o w q => by rw [ke (off q).1 (off q).2]; exact q
    tbls := fun b ps q => ⟨#[], by rw [ke (off q).1 (off q).2, q]; simp⟩ }
  refine I.un (t' := tk') U fun b o q => ?_
  by_cases h1 : b = a
  · subst h1
    rw [upd_same] at q
    cases q
    exact exo_ok hx
  · by_cases h2 : b = dx
    · subst h2
      rw [upd_ne h1, upd_same] at q
      cases q
      exact exd_ok hn (relO_put (fs := []) ry fun g => True.intro)
    · rw [ke h1 h2] at q
      exact (I.hok b o q).stay (fun c w _ z => kp c w z) (fun c hc => by rw [ke (off hc).1 (off hc).2]; exact hc) (fun c xs hc => by rw [ke (off hc).1 (off hc).2]; exact hc)
theorem run_mkx (W : XInit X.prog X.K X.mg C fI f) (hr : Room 1 X.A) (I : Inv X pins σ H s) (r : RelV v u) {us : List Value} {kw : List (Str × Value)} (ha : (us = [u] ∧ kw = []) ∨ (us = [] ∧ kw = [(f, u)]))
    (h : ∀ a dx, H a = none → H dx = none → dx ≠ a → Q (.ref a) (upd (upd H dx (exd dx [(f, v)])) a (exo a C (some dx)))) : wpAny (model X.prog X.w) X.A (call (.ref C) us kw) (EP X pins σ Q) X.xe s := by
  obtain ⟨c1, c2, c3, c4, bm, c5, c6, c7, c8, c9, d1, d2, d3, d4, d5, hC, hbm⟩ := W.T.cls
  obtain ⟨nm, qual, msg, params, scope, dV, kV, doc, pm, ct, oc, an, od, osl, cc, cda, k, p0, p1, p2, p3, p4, p5, p6, p7, p8, p9, lk, hcd, ⟨ccl, cdd, vs, ccs, file, tf, lc, hvs, hfile⟩, ⟨cl, cld, csl, lcc⟩, ⟨ar, hp, har⟩, ⟨k1, k2, k3, k4, hcell, hco, hgen, hk⟩, hpos, b1, b2⟩ := W.fn
  obtain ⟨mb, g1, g2⟩ := I.mod.blt
  obtain ⟨hp', gs, dr, tk, os⟩ := s
  have sz : us.length ≤ sizeLine := by
    rcases ha with ⟨rfl, _⟩ | ⟨rfl, _⟩ <;> rw [sizeLine_eq] <;> simp
  have kk : ∀ b o, hp'.get? b = some o → ((hp'.push (PySem.W.kdv_tup us)).push (PySem.HandSPX.excO C hp'.objs.size)).get? b = some o := fun b o z => Heap.get?_push_of_some _ (Heap.get?_push_of_some _ z)
  have hg : ((hp'.push (PySem.W.kdv_tup us)).push (PySem.HandSPX.excO C hp'.objs.size)).get? (hp'.objs.size + 1) = some (PySem.HandSPX.excO C hp'.objs.size) := by heap_get
  have no : hp'.get? (hp'.objs.size + 1) = none := by
    cases z : hp'.get? (hp'.objs.size + 1) with
    | none => rfl
    | some o => exact absurd (Heap.lt_size z) (Nat.not_lt.mpr (Nat.le_succ _))
  refine wpAny_call (call_kw F.excBase_ValueError (fun Y => PySem.HandSPX.refsVE_contains Y bm hbm) (I.kIn _ _ hC) (PySem.W.looks_findIn I.kIn W.ini) (fun self => PySem.W.bind_fn I.kIn self W.ty) sz
    (init_run (h₀ := hp') (f := f) (u := u) W.T I.kIn kk hg no (by rw [Heap.size_push, Heap.size_push]; exact Nat.le_trans (Nat.le_succ _) (Nat.le_succ _)) ((I.mod.nolimit.keeps I.bk).keeps kk) (I.mod.glob.keeps I.bk) (g1.keeps I.bk) g2 W.hs lk hcd lc hvs hfile lcc W.hm W.ho W.hB W.hno W.hmro hp har W.top k1 k2 k3 k4 hcell hco hgen hk hpos W.sf W.hd (hr.make C us kw).depth ?_ ?_))
  · rcases ha with ⟨rfl, rfl⟩ | ⟨rfl, rfl⟩
    · exact b1 _ _ _
    · exact b2 _ _ _
  · intro h' tk' dx t' kp hd ne he hn
    obtain ⟨n1, n2, J⟩ := two_new (tk' := tk') I kp no hd ne r he hn
    exact ⟨rfl, .ref (hp'.objs.size + 1), _, J, rfl, h _ dx n1 n2 ne⟩
end
end PX
/-! C(e), C(f = e), of own exceptions. -/
namespace PX
open PySem PySem.Spec PyProof.Rows L2
/-- one argument, kept as f -/
def tMkX (C : Addr) (f : Str) (ta : TA) : TE := fun σ H Q => ta σ H fun vs H1 => ∃ v, vs = [v] ∧ ∀ a dx, H1 a = none → H1 dx = none → dx ≠ a → Q (.ref a) (upd (upd H1 dx (exd dx [(f, v)])) a (exo a C (some dx)))
/-- one argument, not told -/
def tMkX0 (C : Addr) (ta : TA) : TE := fun σ H Q => ta σ H fun vs H1 => (∃ v, vs = [v]) ∧ ∀ a, H1 a = none → Q (.ref a) (upd H1 a (exo a C none))
section
variable {X : Cx} {C fI : Addr} {f x : Str} {e : Expr} {es : List Expr} {ta : TA} {p pos kpos : Pos}
theorem pe_mkx (Wi : XInit X.prog X.K X.mg C fI f) (hr : Room 1 X.A) (hg : Gl X x) (hm : X.mg x = some (.ref C)) (hdb : (x == ("__debug__" : Str)) = false) (ha : PA X (e :: es) ta)
    (he : starEach (e :: es) X.env = (false, eval e X.env) :: starEach es X.env) (hpl : (backTo pos (starEach es X.env)).any (·.1) = false) : PE X (.Call (.Name x p) (e :: es) [] pos) (tMkX C f ta) := by
  refine ⟨fun pins s σ H Q I h => ?_⟩
  refine wpAny_Call_Name_kw (ld_glob I hg hm ?_ hdb); refine PySem.W.callWith_K (h₀ := X.base) I.ok.mod.kin Wi.T.kC (thn (ha.run pos pins s σ H _ I h) fun us s1 ⟨vs, H1, I1, r1, q1⟩ => ⟨I1.kIn, ?_⟩) he hpl
  obtain ⟨v, rfl, q⟩ := q1
  cases r1 with
  | cons rv rr =>
    cases rr
    exact run_mkx Wi hr I1 rv (.inl ⟨rfl, rfl⟩) q
theorem pe_mkxk (Wi : XInit X.prog X.K X.mg C fI f) (hr : Room 1 X.A) (hg : Gl X x) (hm : X.mg x = some (.ref C)) (hdb : (x == ("__debug__" : Str)) = false) {kws : List Keyword} (hkw : PK X kws ta)
    (hks : (backToKw pos (keywordEach kws X.env)).filterMap (·.1) = [f]) (hall : (backToKw pos (keywordEach kws X.env)).all (·.1.isSome) = true)
    (hpl : ((backTo pos (starEach [] X.env)).any (·.1) || (backToKw pos (keywordEach kws X.env)).any (·.1.isNone)) = false) : PE X (.Call (.Name x p) [] kws pos) (tMkX C f ta) := by
  refine ⟨fun pins s σ H Q I h => ?_⟩
  refine wpAny_Call_Name_kw (ld_glob I hg hm ?_ hdb); refine PySem.W.callWith_KW0 (h₀ := X.base) I.ok.mod.kin Wi.T.kC hall ?_ hpl
  refine thn (hkw.run pos pins s σ H _ I h) fun ws s1 ⟨vs, H1, I1, r1, q1⟩ => ⟨I1.kIn, ?_⟩
  obtain ⟨v, rfl, q⟩ := q1
  cases r1 with
  | cons rv rr =>
    cases rr
    rw [hks]
    exact run_mkx Wi hr I1 rv (.inr ⟨rfl, rfl⟩) q
theorem pe_mkx0 (q : PySem.W.excIn X.K C PySem.HandSPX.veTail "ValueError.__new__" = true) (kC : PySem.W.keepIn X.K (.ref C) = true) (hg : Gl X x) (hm : X.mg x = some (.ref C)) (hdb : (x == ("__debug__" : Str)) = false) (ha : PA X (e :: es) ta)
    (he : starEach (e :: es) X.env = (false, eval e X.env) :: starEach es X.env) (hpl : (backTo pos (starEach es X.env)).any (·.1) = false) : PE X (.Call (.Name x p) (e :: es) [] pos) (tMkX0 C ta) := by
  refine ⟨fun pins s σ H Q I h => ?_⟩
  refine wpAny_Call_Name_kw (ld_glob I hg hm ?_ hdb); refine PySem.W.callWith_K (h₀ := X.base) I.ok.mod.kin kC (thn (ha.run pos pins s σ H _ I h) fun us s1 ⟨vs, H1, I1, r1, q1⟩ => ⟨I1.kIn, ?_⟩) he hpl
  obtain ⟨⟨v, rfl⟩, q1⟩ := q1
  obtain ⟨z1, z2, z3, z4, z5, z6, z7, z8, z9, y1, y2, y3, y4, y5, y6, y7, y8, hC, hN, hni, T⟩ := exc_obj I1.kIn q
  cases r1 with
  | cons rv rr =>
    cases rr
    refine wpAny_call_exc_subT F.excBase_ValueError T hC hN hni (fun h' a hm => ?_) (by show 1 ≤ sizeLine; rw [sizeLine_eq]; omega)
    have hn : H1 a = none := I1.hok.gone hm.new
    obtain ⟨t, ht, _, _⟩ := hm.there
    exact ⟨.ref a, upd H1 a (exo a C none), I1.laidN hm.keeps hm.new hn (exo_ok ht), rfl, q1 a hn⟩
end
end PX
/-! Plain data over the hand layer: what a value of the abstract heap stands for, boxes of a store for what changes. -/
namespace PD
open PySem L2

/-- plain data: never changes -/
inductive P where
  | non | bl (b : Bool) | int (i : Int) | str (s : Str)
  | tup (l : List P) | lst (l : List P)
  /-- a tuple, a list that is read alone: of the module's own top, or the script -/
  | ktup (l : List P) | fls (l : List P)
  | dk (ks : List Key) (vs : List P)
  | dt (ks : List (List Key)) (vs : List P)
  | ins (c : Nat) (ns : List Str) (vs : List P)
  /-- an exception of one's own that is held: its class, its fields -/
  | exc (c : Nat) (ns : List Str) (vs : List P)
/-- what an expression hands on: data, or a box -/
inductive D where
  | p (x : P) | box (n : Nat)
/-- what stands in a box -/
inductive O where
  | lst (l : List P)
  | dk (ks : List Key) (vs : List P)
  | dt (ks : List (List Key)) (vs : List P)
  | ins (c : Nat) (ns : List Str) (vs : List D)
/-- a store: boxes by number, none: gone -/
abbrev Sto := List (Option O)

/-- an exception that is held: its class, its fields -/
def ExV (H : Hp) (C : Addr) (fs : List (Str × V)) (a : Addr) : Prop := (fs = [] ∧ H a = some (exo a C none)) ∨ ∃ dx, H a = some (exo a C (some dx)) ∧ H dx = some (exd dx fs)
section
variable (K : PySem.W.Frag) (cl : Nat → Addr) (G : Hp)
mutual
def Rep : P → V → Prop
  | .non, v => v = .non
  | .bl b, v => v = .bl b
  | .int i, v => v = .int i
  | .str s, v => v = .str s
  | .tup l, v => ∃ a xs, v = .ref a ∧ G a = some (.tup xs) ∧ RepL l xs
  | .lst l, v => ∃ a xs, v = .ref a ∧ G a = some (.lst xs) ∧ RepL l xs
  | .ktup l, v => ∃ a xs, v = .ref a ∧ SqT K G a xs ∧ RepL l xs
  | .fls l, v => ∃ a xs, v = .ref a ∧ SqL K G a xs ∧ RepL l xs
  | .dk ks vs, v => ∃ a kvs, v = .ref a ∧ Rd G a (.dK kvs) ∧ kvs.map (·.1) = ks ∧ RepL vs (kvs.map (·.2))
  | .dt ks vs, v => ∃ a kvs, v = .ref a ∧ Rd G a (.dT kvs) ∧ kvs.map (·.1) = ks ∧ RepL vs (kvs.map (·.2))
  | .ins c ns vs, v => ∃ a dx ys, v = .ref a ∧ G a = some (.ins (cl c) dx ys) ∧ ys.map (·.1) = ns ∧ RepL vs (ys.map (·.2))
  | .exc c ns vs, v => ∃ a ys, v = .ref a ∧ ExV G (cl (c + 500)) ys a ∧ ys.map (·.1) = ns ∧ RepL vs (ys.map (·.2))
def RepL : List P → List V → Prop
  | [], xs => xs = []
  | p :: l, xs => ∃ v r, xs = v :: r ∧ Rep p v ∧ RepL l r
end
end

section
variable {K : PySem.W.Frag} {cl : Nat → Addr} {G G' : Hp}
/-- not a dict -/
def NoDict : HO → Prop
  | .dK _ | .dT _ => False
  | _ => True
/-- all that may be read may be read still; but for dicts all is as it is -/
structure Gle (G G' : Hp) : Prop where
  rd : ∀ a u, Rd G a u → Rd G' a u
  ex : ∀ a u, NoDict u → G a = some u → G' a = some u
theorem Gle.refl (G : Hp) : Gle G G := ⟨fun _ _ h => h, fun _ _ _ h => h⟩
theorem Gle.trans {G1 G2 G3 : Hp} (a : Gle G1 G2) (b : Gle G2 G3) : Gle G1 G3 := ⟨fun c u h => b.rd c u (a.rd c u h), fun c u n h => b.ex c u n (a.ex c u n h)⟩
theorem Gle.of (h : ∀ a u, G a = some u → G' a = some u) : Gle G G' := ⟨fun a u r => r.elim (fun e => .inl (h a u e)) fun ⟨o, e⟩ => .inr ⟨o, h a _ e⟩, fun a u _ e => h a _ e⟩
theorem Gle.exv (g : Gle G G') {C : Addr} {fs : List (Str × V)} {a : Addr} (h : ExV G C fs a) : ExV G' C fs a := h.elim (fun h => .inl ⟨h.1, g.ex a _ True.intro h.2⟩) fun ⟨dx, e, d⟩ => .inr ⟨dx, g.ex a _ True.intro e, g.ex dx _ True.intro d⟩
theorem Gle.sqT (g : Gle G G') {a : Addr} {xs : List V} (h : SqT K G a xs) : SqT K G' a xs := h.elim (fun h => .inl (g.rd a _ h)) .inr
theorem Gle.sqL (g : Gle G G') {a : Addr} {xs : List V} (h : SqL K G a xs) : SqL K G' a xs := h.elim (fun h => .inl (g.rd a _ h)) .inr
mutual
theorem Rep.mono (g : Gle G G') : ∀ (p : P) (v : V), Rep K cl G p v → Rep K cl G' p v
  | .non, _, h => h
  | .bl _, _, h => h
  | .int _, _, h => h
  | .str _, _, h => h
  | .tup l, _, ⟨a, xs, e, h, r⟩ => ⟨a, xs, e, g.ex a _ trivial h, RepL.mono g l xs r⟩
  | .lst l, _, ⟨a, xs, e, h, r⟩ => ⟨a, xs, e, g.ex a _ trivial h, RepL.mono g l xs r⟩
  | .ktup l, _, ⟨a, xs, e, h, r⟩ => ⟨a, xs, e, g.sqT h, RepL.mono g l xs r⟩
  | .fls l, _, ⟨a, xs, e, h, r⟩ => ⟨a, xs, e, g.sqL h, RepL.mono g l xs r⟩
  | .dk ks vs, _, ⟨a, xs, e, h, k, r⟩ => ⟨a, xs, e, g.rd a _ h, k, RepL.mono g vs _ r⟩
  | .dt ks vs, _, ⟨a, xs, e, h, k, r⟩ => ⟨a, xs, e, g.rd a _ h, k, RepL.mono g vs _ r⟩
  | .ins c ns vs, _, ⟨a, dx, ys, e, h, k, r⟩ => ⟨a, dx, ys, e, g.ex a _ trivial h, k, RepL.mono g vs _ r⟩
  | .exc c ns vs, _, ⟨a, ys, e, h, k, r⟩ => ⟨a, ys, e, g.exv h, k, RepL.mono g vs _ r⟩
theorem RepL.mono (g : Gle G G') : ∀ (l : List P) (xs : List V), RepL K cl G l xs → RepL K cl G' l xs
  | [], _, h => h
  | p :: l, _, ⟨v, r, e, h, t⟩ => ⟨v, r, e, Rep.mono g p v h, RepL.mono g l r t⟩
end
theorem RepL.len : ∀ {l : List P} {xs : List V}, RepL K cl G l xs → l.length = xs.length
  | [], _, h => by rw [show _ = [] from h]; rfl
  | p :: l, _, ⟨v, r, e, _, t⟩ => by rw [e, List.length_cons, List.length_cons, RepL.len t]
theorem RepL.get : ∀ {l : List P} {xs : List V} {i : Nat} {p : P}, RepL K cl G l xs → l[i]? = some p → ∃ v, xs[i]? = some v ∧ Rep K cl G p v
  | [], _, _, _, _, e => by simp at e
  | q :: l, _, 0, p, ⟨v, r, e, h, t⟩, e2 => by
    simp at e2
    subst e2
    exact ⟨v, by rw [e]; rfl, h⟩
  | q :: l, _, i + 1, p, ⟨v, r, e, h, t⟩, e2 => by
    obtain ⟨w, h1, h2⟩ := RepL.get (i := i) (p := p) t (by simpa using e2)
    exact ⟨w, by rw [e]; simpa using h1, h2⟩
theorem RepL.getv {l : List P} {xs : List V} {i : Nat} {v : V} (h : RepL K cl G l xs) (e : xs[i]? = some v) : ∃ p, l[i]? = some p ∧ Rep K cl G p v := by
  have hl := h.len
  have hi : i < xs.length := (List.getElem?_eq_some_iff.mp e).1
  have hi2 : i < l.length := by omega
  obtain ⟨w, h1, h2⟩ := RepL.get (p := l[i]) h (List.getElem?_eq_getElem hi2)
  rw [e] at h1
  cases h1
  exact ⟨_, List.getElem?_eq_getElem hi2, h2⟩
theorem RepL.app : ∀ {l m : List P} {xs ys : List V}, RepL K cl G l xs → RepL K cl G m ys → RepL K cl G (l ++ m) (xs ++ ys)
  | [], _, _, _, h, k => by rw [show _ = [] from h]; exact k
  | p :: l, _, _, _, ⟨v, r, e, h, t⟩, k => by
    rw [e]
    exact ⟨v, r ++ _, rfl, h, RepL.app t k⟩
theorem RepL.one {p : P} {v : V} (h : Rep K cl G p v) : RepL K cl G [p] [v] := ⟨v, [], rfl, h, rfl⟩
theorem RepL.take : ∀ {l : List P} {xs : List V} (n : Nat), RepL K cl G l xs → RepL K cl G (l.take n) (xs.take n)
  | _, _, 0, _ => rfl
  | [], _, _ + 1, h => by rw [show _ = [] from h]; rfl
  | p :: l, _, n + 1, ⟨v, r, e, h, t⟩ => by
    rw [e]
    exact ⟨v, r.take n, rfl, h, RepL.take n t⟩
theorem RepL.drop : ∀ {l : List P} {xs : List V} (n : Nat), RepL K cl G l xs → RepL K cl G (l.drop n) (xs.drop n)
  | l, _, 0, h => h
  | [], _, _ + 1, h => by rw [show _ = [] from h]; rfl
  | p :: l, _, n + 1, ⟨v, r, e, h, t⟩ => by
    rw [e]
    exact RepL.drop n t
theorem RepL.set {p : P} {v : V} (hp : Rep K cl G p v) : ∀ {l : List P} {xs : List V} (n : Nat), RepL K cl G l xs → RepL K cl G (l.set n p) (xs.set n v)
  | [], _, _, h => by rw [show _ = [] from h]; rfl
  | q :: l, _, 0, ⟨w, r, e, h, t⟩ => by
    rw [e]
    exact ⟨v, r, rfl, hp, t⟩
  | q :: l, _, n + 1, ⟨w, r, e, h, t⟩ => by
    rw [e]
    exact ⟨w, r.set n v, rfl, h, RepL.set hp n t⟩
end

/-! ### the store and the heap -/
/-- the addresses of the boxes that live -/
def Liv (μ : List Addr) (S : Sto) (a : Addr) : Prop := ∃ (n : Nat) (o : O), μ[n]? = some a ∧ S[n]? = some (some o)
open Classical in
/-- the heap without the boxes that live, and without what is hidden -/
noncomputable def Gz (F : List Addr) (μ : List Addr) (S : Sto) (H : Hp) : Hp := fun a => if Liv μ S a ∨ a ∈ F then none else H a
theorem gz_of {F μ : List Addr} {S : Sto} {H : Hp} {a : Addr} (h : ¬ Liv μ S a) (hf : a ∉ F) : Gz F μ S H a = H a := if_neg fun z => z.elim h hf
theorem gz_some {F μ : List Addr} {S : Sto} {H : Hp} {a : Addr} {u : HO} (h : Gz F μ S H a = some u) : ¬ Liv μ S a ∧ a ∉ F ∧ H a = some u := by
  unfold Gz at h
  split at h
  · cases h
  · rename_i c
    exact ⟨fun z => c (.inl z), fun z => c (.inr z), h⟩
section
variable (K : PySem.W.Frag) (cl : Nat → Addr) (μ : List Addr) (G : Hp)
def RepD : D → V → Prop
  | .p x, v => Rep K cl G x v
  | .box n, v => ∃ a, v = .ref a ∧ μ[n]? = some a
def RepDL : List D → List V → Prop
  | [], xs => xs = []
  | p :: l, xs => ∃ v r, xs = v :: r ∧ RepD K cl μ G p v ∧ RepDL l r
/-- the names' values -/
def RepS (σ : St) (ρ : List (Option D)) : Prop := σ.length = ρ.length ∧ ∀ (i : Nat) (d : D), ρ[i]? = some (some d) → ∃ v, σ[i]? = some (some v) ∧ RepD K cl μ G d v
/-- a box's content -/
def ObjAt (H : Hp) (a : Addr) : O → Prop
  | .lst l => ∃ xs, H a = some (.lst xs) ∧ RepL K cl G l xs
  | .dk ks vs => ∃ kvs, H a = some (.dK kvs) ∧ kvs.map (·.1) = ks ∧ RepL K cl G vs (kvs.map (·.2))
  | .dt ks vs => ∃ kvs, H a = some (.dT kvs) ∧ kvs.map (·.1) = ks ∧ RepL K cl G vs (kvs.map (·.2))
  | .ins c ns vs => ∃ dx ys, H a = some (.ins (cl c) dx ys) ∧ ys.map (·.1) = ns ∧ RepDL K cl μ G vs (ys.map (·.2))
end
/-- the heap bears the store; F: what is hidden (lists that a comprehension fills) -/
structure Bears (K : PySem.W.Frag) (cl : Nat → Addr) (F : List Addr) (μ : List Addr) (H : Hp) (S : Sto) : Prop where
  len : μ.length = S.length
  nd : μ.Nodup
  obj : ∀ (n : Nat) (a : Addr) (o : O), μ[n]? = some a → S[n]? = some (some o) → ObjAt K cl μ (Gz F μ S H) H a o
  dom : ∀ (n : Nat) (a : Addr), μ[n]? = some a → H a ≠ none
  nf : ∀ (n : Nat) (a : Addr), μ[n]? = some a → a ∉ F
  hd : ∀ a ∈ F, H a ≠ none
/-- from one state to a later one -/
structure Fra (μ : List Addr) (S : Sto) (H : Hp) (μ' : List Addr) (S' : Sto) (H' : Hp) : Prop where
  pre : μ <+: μ'
  keep : ∀ a u, ¬ Liv μ S a → H a = some u → H' a = some u ∧ ¬ Liv μ' S' a
  dom : ∀ a, H a ≠ none → H' a ≠ none

section
variable {K : PySem.W.Frag} {cl : Nat → Addr} {F μ μ' μ1 μ2 : List Addr} {S S' S1 S2 : Sto} {H H' H1 H2 : Hp} {G G' : Hp}
theorem Fra.refl : Fra μ S H μ S H := ⟨List.prefix_refl _, fun _ _ a b => ⟨b, a⟩, fun _ h => h⟩
theorem Fra.trans (f : Fra μ S H μ1 S1 H1) (g : Fra μ1 S1 H1 μ2 S2 H2) : Fra μ S H μ2 S2 H2 :=
  ⟨List.IsPrefix.trans f.pre g.pre, fun a u h e => let ⟨e1, h1⟩ := f.keep a u h e; g.keep a u h1 e1, fun a h => g.dom a (f.dom a h)⟩
theorem Fra.gle (f : Fra μ S H μ' S' H') : Gle (Gz F μ S H) (Gz F μ' S' H') := Gle.of fun a u h => by
  obtain ⟨h1, hf, h2⟩ := gz_some h
  obtain ⟨h3, h4⟩ := f.keep a u h1 h2
  rw [gz_of h4 hf]
  exact h3
theorem pre_get {α : Type} {l l' : List α} (p : l <+: l') {i : Nat} {x : α} (h : l[i]? = some x) : l'[i]? = some x := by
  obtain ⟨t, rfl⟩ := p
  rw [List.getElem?_append_left (List.getElem?_eq_some_iff.mp h).1]
  exact h
theorem RepD.mono (p : μ <+: μ') (g : Gle G G') {d : D} {v : V} (h : RepD K cl μ G d v) : RepD K cl μ' G' d v := by
  cases d with
  | p x => exact Rep.mono g x v h
  | box n =>
    obtain ⟨a, e, h⟩ := h
    exact ⟨a, e, pre_get p h⟩
theorem RepDL.mono (p : μ <+: μ') (g : Gle G G') : ∀ {l : List D} {xs : List V}, RepDL K cl μ G l xs → RepDL K cl μ' G' l xs
  | [], _, h => h
  | d :: l, _, ⟨v, r, e, h, t⟩ => ⟨v, r, e, RepD.mono p g h, RepDL.mono p g t⟩
theorem RepDL.len : ∀ {l : List D} {xs : List V}, RepDL K cl μ G l xs → l.length = xs.length
  | [], _, h => by rw [show _ = [] from h]; rfl
  | p :: l, _, ⟨v, r, e, _, t⟩ => by rw [e, List.length_cons, List.length_cons, RepDL.len t]
theorem RepS.mono (p : μ <+: μ') (g : Gle G G') {σ : St} {ρ : List (Option D)} (h : RepS K cl μ G σ ρ) : RepS K cl μ' G' σ ρ :=
  ⟨h.1, fun i d e => let ⟨v, h1, h2⟩ := h.2 i d e; ⟨v, h1, RepD.mono p g h2⟩⟩
theorem RepS.set {σ : St} {ρ : List (Option D)} {i : Nat} {d : D} {v : V} (h : RepS K cl μ G σ ρ) (r : RepD K cl μ G d v) : RepS K cl μ G (σ.set i (some v)) (ρ.set i (some d)) := by
  refine ⟨by rw [List.length_set, List.length_set]; exact h.1, fun j e hj => ?_⟩
  by_cases c : i = j
  · subst c
    by_cases hl : i < ρ.length
    · rw [List.getElem?_set_self hl] at hj
      cases hj
      exact ⟨v, List.getElem?_set_self (by rw [h.1]; exact hl), r⟩
    · rw [List.getElem?_eq_none (by simpa using hl)] at hj
      cases hj
  · rw [List.getElem?_set_ne c] at hj ⊢
    exact h.2 j e hj
theorem RepS.forget {σ : St} {ρ : List (Option D)} {i : Nat} {o : Option V} (h : RepS K cl μ G σ ρ) : RepS K cl μ G (σ.set i o) (ρ.set i none) := by
  refine ⟨by rw [List.length_set, List.length_set]; exact h.1, fun j e hj => ?_⟩
  by_cases c : i = j
  · subst c
    by_cases hl : i < ρ.length
    · rw [List.getElem?_set_self hl] at hj
      cases hj
    · rw [List.getElem?_eq_none (by simpa using hl)] at hj
      cases hj
  · rw [List.getElem?_set_ne c] at hj ⊢
    exact h.2 j e hj
theorem ObjAt.mono (p : μ <+: μ') (g : Gle G G') (k : ∀ u, H a = some u → H' a = some u) {o : O} (q : ObjAt K cl μ G H a o) : ObjAt K cl μ' G' H' a o := by
  cases o with
  | lst l => obtain ⟨xs, e, r⟩ := q; exact ⟨xs, k _ e, RepL.mono g l xs r⟩
  | dk ks vs => obtain ⟨kvs, e, kk, r⟩ := q; exact ⟨kvs, k _ e, kk, RepL.mono g vs _ r⟩
  | dt ks vs => obtain ⟨kvs, e, kk, r⟩ := q; exact ⟨kvs, k _ e, kk, RepL.mono g vs _ r⟩
  | ins c ns vs => obtain ⟨dx, ys, e, kk, r⟩ := q; exact ⟨dx, ys, k _ e, kk, RepDL.mono p g r⟩
theorem upd_keep {p : Addr} {o : HO} (hp : H p = none) : ∀ a u, H a = some u → (upd H p o) a = some u := fun a u e => by rw [upd_ne (ne_of_none e hp)]; exact e
theorem dom_of (keep : ∀ a u, H a = some u → H' a = some u) : ∀ a, H a ≠ none → H' a ≠ none := fun a h => by
  cases e : H a with
  | none => exact absurd e h
  | some u => rw [keep a u e]; exact fun z => by cases z
/-- the heap grows: nothing changes for the store -/
theorem Bears.grow (b : Bears K cl F μ H S) (keep : ∀ a u, H a = some u → H' a = some u) : Bears K cl F μ H' S ∧ Fra μ S H μ S H' := by
  have fr : Fra μ S H μ S H' := ⟨List.prefix_refl _, fun a u h e => ⟨keep a u e, h⟩, dom_of keep⟩
  exact ⟨⟨b.len, b.nd, fun n a x hn hs => (b.obj n a x hn hs).mono fr.pre fr.gle fun u e => keep a u e, fun n a hn => fr.dom a (b.dom n a hn), b.nf, fun a h => fr.dom a (b.hd a h)⟩, fr⟩
theorem Bears.fresh (b : Bears K cl F μ H S) {p : Addr} {o : HO} (hp : H p = none) : Bears K cl F μ (upd H p o) S ∧ Fra μ S H μ S (upd H p o) := b.grow (upd_keep hp)
/-- a fresh place is no box's -/
theorem Bears.nobox (b : Bears K cl F μ H S) {p : Addr} (hp : H p = none) : p ∉ μ := fun h => by
  obtain ⟨n, hn⟩ := List.mem_iff_getElem?.mp h
  exact b.dom n p hn hp
theorem Bears.noliv (b : Bears K cl F μ H S) {p : Addr} (hp : H p = none) : ¬ Liv μ S p := fun ⟨n, o, h, _⟩ => b.dom n p h hp
theorem liv_set {n : Nat} {o : Option O} {a : Addr} (h : Liv μ (S.set n o) a) : Liv μ S a ∨ (μ[n]? = some a ∧ o ≠ none) := by
  obtain ⟨m, x, h1, h2⟩ := h
  by_cases c : n = m
  · subst c
    by_cases hl : n < S.length
    · rw [List.getElem?_set_self hl] at h2
      cases h2
      exact .inr ⟨h1, fun z => by cases z⟩
    · rw [List.getElem?_eq_none (by simpa using hl)] at h2
      cases h2
  · rw [List.getElem?_set_ne c] at h2
    exact .inl ⟨m, x, h1, h2⟩
theorem nd_eq (nd : μ.Nodup) {n m : Nat} {a : Addr} (h : μ[n]? = some a) (h' : μ[m]? = some a) : n = m :=
  (List.getElem?_inj (List.getElem?_eq_some_iff.mp h).1 nd).mp (h.trans h'.symm)
/-- data alone -/
def pureD : List D → Option (List P)
  | [] => some []
  | .p x :: r => (pureD r).map (x :: ·)
  | .box _ :: _ => none
/-- a box's content as data -/
def cont : O → Option P
  | .lst l => some (.lst l)
  | .dk ks vs => some (.dk ks vs)
  | .dt ks vs => some (.dt ks vs)
  | .ins c ns vs => (pureD vs).map fun ws => .ins c ns ws
theorem repDL_pure : ∀ {vs : List D} {ws : List P} {xs : List V}, pureD vs = some ws → RepDL K cl μ G vs xs → RepL K cl G ws xs
  | [], ws, xs, h, r => by
    cases h
    exact r
  | .box n :: vs, ws, xs, h, r => by cases h
  | .p x :: vs, ws, xs, h, r => by
    obtain ⟨v, t, e, h1, h2⟩ := r
    have h' : (pureD vs).map (x :: ·) = some ws := h
    cases hm : pureD vs with
    | none => rw [hm] at h'; cases h'
    | some ws' =>
      rw [hm] at h'
      cases h'
      exact ⟨v, t, e, h1, repDL_pure hm h2⟩
/-- the box's content is let go: it is data from now on -/
theorem Bears.freeze (b : Bears K cl F μ H S) {n : Nat} {a : Addr} {o : O} {p : P} (hn : μ[n]? = some a) (hs : S[n]? = some (some o)) (hc : cont o = some p) :
    Bears K cl F μ H (S.set n none) ∧ Fra μ S H μ (S.set n none) H ∧ Rep K cl (Gz F μ (S.set n none) H) p (.ref a) := by
  have lv : ∀ c, Liv μ (S.set n none) c → Liv μ S c := fun c h => (liv_set h).elim id fun z => absurd rfl z.2
  have fr : Fra μ S H μ (S.set n none) H := ⟨List.prefix_refl _, fun c u h e => ⟨e, fun z => h (lv c z)⟩, fun _ h => h⟩
  have nl : ¬ Liv μ (S.set n none) a := fun ⟨m, x, h1, h2⟩ => by
    obtain rfl := nd_eq b.nd hn h1
    rw [List.getElem?_set_self (List.getElem?_eq_some_iff.mp hs).1] at h2
    cases h2
  have ga : ∀ u, H a = some u → Gz F μ (S.set n none) H a = some u := fun u e => by rw [gz_of nl (b.nf n a hn)]; exact e
  refine ⟨⟨by rw [List.length_set]; exact b.len, b.nd, fun m c x hm hx => ?_, b.dom, b.nf, b.hd⟩, fr, ?_⟩
  · have hx' : S[m]? = some (some x) := by
      by_cases c : n = m
      · subst c
        rw [List.getElem?_set_self (List.getElem?_eq_some_iff.mp hs).1] at hx
        cases hx
      · rwa [List.getElem?_set_ne c] at hx
    exact (b.obj m c x hm hx').mono fr.pre fr.gle fun _ e => e
  · have q := (b.obj n a o hn hs).mono fr.pre (fr.gle (F := F)) fun _ e => e
    cases o with
    | lst l => cases hc; obtain ⟨xs, e, r⟩ := q; exact ⟨a, xs, rfl, ga _ e, r⟩
    | dk ks vs => cases hc; obtain ⟨kvs, e, k, r⟩ := q; exact ⟨a, kvs, rfl, .inl (ga _ e), k, r⟩
    | dt ks vs => cases hc; obtain ⟨kvs, e, k, r⟩ := q; exact ⟨a, kvs, rfl, .inl (ga _ e), k, r⟩
    | ins c ns vs =>
      obtain ⟨dx, ys, e, k, r⟩ := q
      simp only [cont] at hc
      cases hm : pureD vs with
      | none => rw [hm] at hc; cases hc
      | some ws => rw [hm] at hc; cases hc; exact ⟨a, dx, ys, rfl, ga _ e, k, repDL_pure hm r⟩
theorem liv_app {a c : Addr} {o : Option O} (hl : μ.length = S.length) (h : Liv (μ ++ [c]) (S ++ [o]) a) : Liv μ S a ∨ a = c := by
  obtain ⟨m, x, h1, h2⟩ := h
  by_cases hm : m < μ.length
  · rw [List.getElem?_append_left hm] at h1
    rw [List.getElem?_append_left (by omega)] at h2
    exact .inl ⟨m, x, h1, h2⟩
  · rw [List.getElem?_append_right (by omega)] at h1
    have := (List.getElem?_eq_some_iff.mp h1).2
    simp at this
    exact .inr this.symm
/-- what stands at a fresh place becomes a box -/
theorem Bears.boxed (b : Bears K cl F μ H S) {a : Addr} {o : O} (k : ∀ c u, H c = some u → H' c = some u) (ha : H a = none) (ha' : H' a ≠ none) (hf : a ∉ F) (q : ObjAt K cl μ (Gz F μ S H) H' a o) :
    Bears K cl F (μ ++ [a]) H' (S ++ [some o]) ∧ Fra μ S H (μ ++ [a]) (S ++ [some o]) H' := by
  have fr : Fra μ S H (μ ++ [a]) (S ++ [some o]) H' := ⟨List.prefix_append _ _, fun c u h e => ⟨k c u e, fun z => (liv_app b.len z).elim h fun z => by rw [z, ha] at e; cases e⟩, dom_of k⟩
  have nb := b.nobox ha
  refine ⟨⟨by simp [b.len], ?_, fun m c x hm hx => ?_, fun m c hm => ?_, fun m c hm => ?_, fun c h => fr.dom c (b.hd c h)⟩, fr⟩
  · rw [List.nodup_append]
    exact ⟨b.nd, by simp, fun x hx y hy => by simp at hy; subst hy; exact fun z => nb (z ▸ hx)⟩
  · by_cases h : m < μ.length
    · rw [List.getElem?_append_left h] at hm
      rw [List.getElem?_append_left (by have := b.len; omega)] at hx
      exact (b.obj m c x hm hx).mono fr.pre fr.gle fun u e => k c u e
    · rw [List.getElem?_append_right (by omega)] at hm
      rw [List.getElem?_append_right (by have := b.len; omega)] at hx
      have h1 := (List.getElem?_eq_some_iff.mp hm).2
      have h2 := (List.getElem?_eq_some_iff.mp hx).2
      simp at h1 h2
      subst h1; subst h2
      exact q.mono fr.pre fr.gle fun _ e => e
  · by_cases h : m < μ.length
    · rw [List.getElem?_append_left h] at hm
      exact fr.dom c (b.dom m c hm)
    · rw [List.getElem?_append_right (by omega)] at hm
      have h1 := (List.getElem?_eq_some_iff.mp hm).2
      simp at h1
      subst h1
      exact ha'
  · by_cases h : m < μ.length
    · rw [List.getElem?_append_left h] at hm
      exact b.nf m c hm
    · rw [List.getElem?_append_right (by omega)] at hm
      have h1 := (List.getElem?_eq_some_iff.mp hm).2
      simp at h1
      subst h1
      exact hf
/-- a box's content is changed -/
theorem Bears.write (b : Bears K cl F μ H S) {n : Nat} {a : Addr} {o x : O} {u : HO} (hn : μ[n]? = some a) (hs : S[n]? = some (some o)) (q : ObjAt K cl μ (Gz F μ S H) (upd H a u) a x) :
    Bears K cl F μ (upd H a u) (S.set n (some x)) ∧ Fra μ S H μ (S.set n (some x)) (upd H a u) := by
  have hla : Liv μ S a := ⟨n, o, hn, hs⟩
  have lv : ∀ c, Liv μ (S.set n (some x)) c → Liv μ S c := fun c h => (liv_set h).elim id fun z => by
    have e : a = c := Option.some.inj (hn.symm.trans z.1)
    exact e ▸ hla
  have fr : Fra μ S H μ (S.set n (some x)) (upd H a u) := ⟨List.prefix_refl _, fun c w h e => ⟨by rw [upd_ne (show c ≠ a from fun z => h (by rw [z]; exact hla))]; exact e, fun z => h (lv c z)⟩, fun c h => by
    by_cases e : c = a
    · rw [e, upd_same]; exact fun z => by cases z
    · rw [upd_ne e]; exact h⟩
  refine ⟨⟨by rw [List.length_set]; exact b.len, b.nd, fun m c y hm hy => ?_, fun m c hm => fr.dom c (b.dom m c hm), b.nf, fun c h => fr.dom c (b.hd c h)⟩, fr⟩
  by_cases e : n = m
  · subst e
    rw [List.getElem?_set_self (List.getElem?_eq_some_iff.mp hs).1] at hy
    cases hy
    obtain rfl : a = c := Option.some.inj (hn.symm.trans hm)
    exact q.mono fr.pre fr.gle fun _ e => e
  · rw [List.getElem?_set_ne e] at hy
    refine (b.obj m c y hm hy).mono fr.pre fr.gle fun w e2 => ?_
    rw [upd_ne (show c ≠ a from fun z => e (nd_eq b.nd hn (by rw [← z]; exact hm)))]
    exact e2
end
end PD
/-! The little language: expressions, tests, statements over plain data and boxes, and what they do. -/
namespace PD
open PySem L2

inductive Ty where
  | int | bool | str | tup | lst | dict | none | cls (c : Nat)
deriving DecidableEq
inductive Op1 where
  | neg | abs | len | int | list | tuple | isN | notN | not | sortedI | itemsL | str | all | any | rev | isA (n : Nat) (l : List Ty)
  /-- isinstance of an exception: n classes are known, those in l are below the class at t of the table; its field -/
  | isX (n t : Nat) (l : List Nat) | xf (c : Nat) (f : Str)
inductive Op2 where
  | add | sub | mul | fdiv | mod | pow | eq | ne | lt | le | gt | ge | mem | nmem | ix
deriving DecidableEq
inductive Mt where
  | append | extend | remove
inductive Tg where
  | nm (i : Nat) | tp (l : List Nat)
mutual
inductive IE where
  | var (i : Nat) | cst (p : P)
  | o1 (o : Op1) (a : IE) | o2 (o : Op2) (a b : IE)
  | get (a b c : IE) | slice (a : IE) (bl bh : Bool) (lo hi : IE)
  | and (a b : IE) | or (a b : IE) | ifx (c : IT) (a b : IE)
  | chain (o p : Op2) (a b c : IE)
  | tup (l : IL) | lst (bx : Bool) (l : IL) | dnew
  | call (fz : Bool) (i : Nat) (dfl : List P) (l : IL)
  | meth (fz : Bool) (c : Nat) (m : Str) (i : Nat) (l : IL)
  | own1 (c i : Nat) (a : IE) | own2 (c i : Nat) (a b : IE) | ne (c i : Nat) (a b : IE) | isin (c i : Nat) (x o : IE)
  | mk (fz : Bool) (c i : Nat) (dfl : List P) (l : IL)
  | mkx (kw : Bool) (c : Nat) (f : Option Str) (l : IL)
  | fld (c : Nat) (f : Str) (e : IE)
  | mut (m : Mt) (o a : IE)
  | lc (bx : Bool) (own : List Nat) (elt : IE) (tg : Tg) (src : Src) (cond : IT)
  | dc (bx : Bool) (own : List Nat) (k v : IE) (tg : Tg) (src : Src) (cond : IT)
inductive IT where
  | tt | tr (e : IE) | not (t : IT) | and (t u : IT) | or (t u : IT)
inductive IL where
  | nil | cons (e : IE) (l : IL)
inductive Src where
  | seq (e : IE) | rng1 (e : IE) | rng2 (a b : IE) | items (e : IE) | enum (e : IE) | zip (a b : IE)
end
mutual
inductive IS where
  | set (t : Tg) (e : IE)
  | par (i j : Nat) (a b : IE)
  | par3 (i j l : Nat) (a b c : IE)
  | aug (o : Op2) (i : Nat) (e : IE)
  | auge (i : Nat) (e : IE)
  | ixset (o k v : IE)
  | ixaug (q : Op2) (o k v : IE)
  | fset (c : Nat) (f : Str) (o v : IE)
  | ex (e : IE)
  | iff (c : IT) (a b : IB) | whl (c : IT) (b : IB) | for_ (tg : Tg) (src : Src) (b : IB)
  | ret (fz : Bool) (e : IE) | retN | pass | bad
inductive IB where
  | nil | cons (s : IS) (b : IB)
end

/-! ### results -/
inductive Res (α : Type) where
  | ok (a : α) (S : Sto) | rse (c : Nat) (ns : List Str) (vs : List P) (S : Sto) | bad
def Res.bind {α β : Type} (r : Res α) (f : α → Sto → Res β) : Res β := match r with
  | .ok a S => f a S
  | .rse c ns vs S => .rse c ns vs S
  | .bad => .bad
def optR {α : Type} (o : Option α) (S : Sto) : Res α := match o with
  | some a => .ok a S
  | none => .bad

/-! ### operations on data -/
def P.flat : P → Bool
  | .non | .bl _ | .int _ | .str _ => true
  | _ => false
mutual
def toPD : P → Option PyData
  | .non => some .none
  | .bl b => some (.bool b)
  | .int i => some (.int i)
  | .str s => some (.str s)
  | .tup l => (toPDs l).map .tuple
  | .lst l => (toPDs l).map .list
  | .ktup l => (toPDs l).map .tuple
  | .fls l => (toPDs l).map .list
  | .dk _ _ | .dt _ _ | .ins _ _ _ | .exc _ _ _ => none
def toPDs : List P → Option (List PyData)
  | [] => some []
  | p :: l => match toPD p, toPDs l with
    | some d, some ds => some (d :: ds)
    | _, _ => none
end
/-- data that == tells -/
def dataOf (p : P) : Option PyData := match toPD p with
  | some d => if SeqAt.shaped d = true then some d else none
  | none => none
def datas : List P → Option (List PyData)
  | [] => some []
  | p :: l => match dataOf p, datas l with
    | some d, some ds => some (d :: ds)
    | _, _ => none
/-- what stands under a key -/
def look {κ α : Type} [DecidableEq κ] : List κ → List α → κ → Option α
  | k :: ks, v :: vs, x => if k = x then some v else look ks vs x
  | _, _, _ => none
/-- the items of one dict against another one -/
def dEq (ks' : List Key) (es : List PyData) : List Key → List PyData → Bool
  | k :: ks, d :: ds => match look ks' es k with
    | some e => PyData.eqv d e && dEq ks' es ks ds
    | none => false
  | _, _ => true
def pyEqD (a b : P) : Option Bool := match dataOf a, dataOf b with
  | some d, some e => some (PyData.eqv d e)
  | _, _ => none
def pyEq (a b : P) : Option Bool := match a, b with
  | .dk ks vs, .dk ks' vs' => match datas vs, datas vs' with
    | some ds, some es => some (ks.length == ks'.length && dEq ks' es ks ds)
    | _, _ => none
  | a, b => match dataOf a, dataOf b with
    | some d, some e => some (PyData.eqv d e)
    | _, _ => none
def keyOf : P → Option Key
  | .int i => some (.inl i)
  | .str s => some (.inr s)
  | _ => none
def keysOf : List P → Option (List Key)
  | [] => some []
  | p :: l => match keyOf p, keysOf l with
    | some k, some ks => some (k :: ks)
    | _, _ => none
def tkeyOf : P → Option (List Key)
  | .tup l => keysOf l
  | _ => none
def ofKey : Key → P
  | .inl i => .int i
  | .inr s => .str s
/-- a key's value put: in its place or behind -/
def putv {κ : Type} [DecidableEq κ] (ks : List κ) (vs : List P) (x : κ) (v : P) : List κ × List P :=
  if x ∈ ks then (ks, (ks.zip vs).map fun kv => if kv.1 = x then v else kv.2) else (ks ++ [x], vs ++ [v])
def hasK {κ : Type} [DecidableEq κ] (ks : List κ) (x : κ) : Bool := decide (x ∈ ks)
def inList (x : P) (l : List P) : Option Bool := match dataOf x, datas l with
  | some d, some ds => some (ds.any fun e => PyData.eqv e d)
  | _, _ => none
def isTy (p : P) (t : Ty) : Bool := match p, t with
  | .int _, .int => true
  | .bl _, .int => true
  | .bl _, .bool => true
  | .str _, .str => true
  | .tup _, .tup => true
  | .lst _, .lst => true
  | .dk _ _, .dict => true
  | .dt _ _, .dict => true
  | .ins c _ _, .cls c' => c == c'
  | _, _ => false
def intsOf : List P → Option (List Int)
  | [] => some []
  | .int i :: l => (intsOf l).map (i :: ·)
  | _ :: _ => none
def boolsOf : List P → Option (List Bool)
  | [] => some []
  | .bl i :: l => (boolsOf l).map (i :: ·)
  | _ :: _ => none
def ikeys : List Key → Option (List Int)
  | [] => some []
  | .inl i :: l => (ikeys l).map (i :: ·)
  | .inr _ :: _ => none
def prim1 (o : Op1) (a : P) : Option P := match o, a with
  | .neg, .int i => some (.int (-i))
  | .abs, .int i => some (.int (if i < 0 then -i else i))
  | .len, .str s => if s.length ≤ sizeLine then some (.int s.length) else none
  | .len, .lst l => some (.int l.length)
  | .len, .tup l => some (.int l.length)
  | .len, .fls l => some (.int l.length)
  | .len, .ktup l => some (.int l.length)
  | .len, .dk ks _ => some (.int ks.length)
  | .int, .int i => some (.int i)
  | .int, .bl b => some (.int (if b then 1 else 0))
  | .list, .lst l => some (.lst l)
  | .list, .tup l => some (.lst l)
  | .list, .fls l => some (.lst l)
  | .list, .ktup l => some (.lst l)
  | .tuple, .lst l => some (.tup l)
  | .tuple, .tup l => some (.tup l)
  | .tuple, .fls l => some (.tup l)
  | .isN, .non => some (.bl true)
  | .isN, _ => some (.bl false)
  | .notN, .non => some (.bl false)
  | .notN, _ => some (.bl true)
  | .not, .bl b => some (.bl (!b))
  | .sortedI, .lst l => match intsOf l with
    | some ns => if ns.length < 64 then some (.lst ((ns.mergeSort (fun a b => decide (a ≤ b))).map .int)) else none
    | none => none
  | .sortedI, .dk ks _ => match ikeys ks with
    | some ns => if ns.length < 64 then some (.lst ((ns.mergeSort (fun a b => decide (a ≤ b))).map .int)) else none
    | none => none
  | .itemsL, .dk ks vs => some (.lst ((ks.zip vs).map fun kv => .tup [ofKey kv.1, kv.2]))
  | .str, .int i => if i.natAbs.log2 < 1920 then some (.str (toString i)) else none
  | .all, .lst l => (boolsOf l).map fun bs => .bl (bs.all id)
  | .any, .lst l => (boolsOf l).map fun bs => .bl (bs.any id)
  | .rev, .lst l => some (.lst l.reverse)
  | .rev, .fls l => some (.lst l.reverse)
  | .isA _ _, .fls _ => none
  | .isA _ _, .ktup _ => none
  | .isA _ _, .dt _ _ => none
  | .isA _ _, .exc _ _ _ => none
  | .isX n _ cs, .exc c _ _ => if c < n then some (.bl (cs.contains c)) else none
  | .xf c f, .exc c' ns vs => if c = c' then look ns vs f else none
  | .isA n ts, .ins c ns vs => if c < n then some (.bl (ts.any (isTy (.ins c ns vs)))) else none
  | .isA _ ts, a => some (.bl (ts.any (isTy a)))
  | _, _ => none
/-- text * k -/
def strRep (s : Str) (k : Int) : Str := if k < 1 then Str.empty else if (k == 1 || s.length == 0) = true then s else ⟨(List.replicate k.toNat s.cps).foldl (· ++ ·) #[]⟩
def prim2 (o : Op2) (a b : P) : Option P := match o, a, b with
  | .add, .int i, .int j => some (.int (i + j))
  | .add, .str s, .str t => if s.length + t.length ≤ sizeLine then some (.str (s ++ t)) else none
  | .add, .lst l, .lst m => if l.length + m.length ≤ sizeLine then some (.lst (l ++ m)) else none
  | .add, .tup l, .tup m => if l.length + m.length ≤ sizeLine then some (.tup (l ++ m)) else none
  | .sub, .int i, .int j => some (.int (i - j))
  | .mul, .int i, .int j => if i.natAbs.log2 + j.natAbs.log2 < 1000000 then some (.int (i * j)) else none
  | .mul, .str s, .int k => if 0 ≤ k ∧ k ≤ 1000 ∧ s.length ≤ 1000 then some (.str (strRep s k)) else none
  | .mul, .lst l, .int k => if -(2 ^ 63) ≤ k ∧ k < 2 ^ 63 ∧ l.length * k.toNat ≤ sizeLine then some (.lst (List.replicate k.toNat l).flatten) else none
  | .fdiv, .int i, .int j => if 0 < j ∧ j.natAbs.log2 < 9000 then some (.int (i / j)) else none
  | .mod, .int i, .int j => if 0 < j then some (.int (i % j)) else if j ≠ 0 then some (.int (i.fmod j)) else none
  | .pow, .int i, .int j => if 0 ≤ j ∧ j ≤ 1000000 ∧ i.natAbs < 2 ^ 64 then some (.int (i ^ j.toNat)) else none
  | .eq, a, b => (pyEq a b).map .bl
  | .ne, a, b => (pyEqD a b).map fun r => .bl (!r)
  | .lt, .int i, .int j => some (.bl (decide (i < j)))
  | .le, .int i, .int j => some (.bl (decide (i ≤ j)))
  | .gt, .int i, .int j => some (.bl (decide (j < i)))
  | .ge, .int i, .int j => some (.bl (decide (j ≤ i)))
  | .mem, x, .lst l => (inList x l).map .bl
  | .mem, x, .tup l => (inList x l).map .bl
  | .mem, x, .fls l => (inList x l).map .bl
  | .mem, x, .ktup l => (inList x l).map .bl
  | .mem, x, .dk ks vs => (keyOf x).map fun k => .bl (hasK ks k)
  | .nmem, x, .lst l => (inList x l).map fun r => .bl (!r)
  | .nmem, x, .tup l => (inList x l).map fun r => .bl (!r)
  | .nmem, x, .fls l => (inList x l).map fun r => .bl (!r)
  | .nmem, x, .ktup l => (inList x l).map fun r => .bl (!r)
  | .nmem, x, .dk ks vs => (keyOf x).map fun k => .bl (!hasK ks k)
  | .ix, .lst l, .int i => atI l i
  | .ix, .tup l, .int i => atI l i
  | .ix, .fls l, .int i => atI l i
  | .ix, .ktup l, .int i => atI l i
  | .ix, .str s, .int i => if s.length ≤ sizeLine then (atI s.cps.toList i).map fun c => .str ⟨#[c]⟩ else none
  | .ix, .dk ks vs, x => (keyOf x).bind (look ks vs)
  | .ix, .dt ks vs, x => (tkeyOf x).bind (look ks vs)
  | _, _, _ => none
/-- a slice's end: there (an int), or not -/
def partOf (b : Bool) (d : D) : Option (Option Int) := if b then (match d with
  | .p (.int i) => some (some i)
  | _ => none) else some none
def cutP (l : List P) (lo hi : Option Int) : List P := (l.drop (HT.sIx l.length 0 lo)).take (HT.sIx l.length l.length hi - HT.sIx l.length 0 lo)
def getP (a b c : P) : Option P := match a with
  | .dk ks vs => (keyOf b).map fun k => (look ks vs k).getD c
  | .dt ks vs => (tkeyOf b).map fun k => (look ks vs k).getD c
  | _ => none
def sliceP (a : P) (lo hi : Option Int) : Option P := match a with
  | .lst l => some (.lst (cutP l lo hi))
  | .fls l => some (.lst (cutP l lo hi))
  | .tup l => some (.tup (cutP l lo hi))
  | _ => none
def isDict : P → Bool
  | .dk _ _ => true
  | .dt _ _ => true
  | _ => false

/-! ### boxes -/
def view (S : Sto) : D → Option P
  | .p x => some x
  | .box n => match S[n]? with
    | some (some o) => cont o
    | _ => none
/-- a box let go, data as it is -/
def frz (S : Sto) : D → Res P
  | .p x => .ok x S
  | .box n => match S[n]? with
    | some (some o) => optR (cont o) (S.set n none)
    | _ => .bad
def frzL (S : Sto) : List D → Res (List P)
  | [] => .ok [] S
  | d :: l => (frz S d).bind fun p S => (frzL S l).bind fun ps S => .ok (p :: ps) S
def boxIf (bx : Bool) (o : O) (S : Sto) : Res D := if bx then .ok (.box S.length) (S ++ [some o]) else optR ((cont o).map .p) S
def truth : P → Option Bool
  | .non => some false
  | .bl b => some b
  | .int i => some (i != 0)
  | .str s => if s.length ≤ sizeLine then some ((s.length : Int) != 0) else none
  | .tup l | .lst l | .ktup l | .fls l => some (!l.isEmpty)
  | _ => none
/-- names of a target -/
def wipeR (ρ : List (Option D)) : List Nat → List (Option D)
  | [] => ρ
  | v :: vs => (wipeR ρ vs).set v none
def setAll (ρ : List (Option D)) : List Nat → List P → Option (List (Option D))
  | [], [] => some ρ
  | i :: is, p :: ps => setAll (ρ.set i (some (.p p))) is ps
  | _, _ => none
def setTg (t : Tg) (x : P) (ρ : List (Option D)) : Option (List (Option D)) := match t, x with
  | .nm i, x => some (ρ.set i (some (.p x)))
  | .tp is, .tup l => setAll ρ is l
  | .tp is, .lst l => setAll ρ is l
  | _, _ => none
/-- the first item that is equal, taken away -/
def removeP (x : P) : List P → Option (List P)
  | [] => none
  | p :: l => match pyEq p x with
    | some true => some l
    | some false => (removeP x l).map (p :: ·)
    | none => none
/-- x op= y of what never changes -/
def augP (o : Op2) (x y : P) : Option P := match x, y with
  | .int _, .int _ => (match o with
    | .add | .sub | .mul | .mod => prim2 o x y
    | _ => none)
  | .str _, .str _ => (match o with
    | .add => prim2 o x y
    | _ => none)
  | _, _ => none
def mutO (m : Mt) (o : O) (x : P) : Option O := match m, o, x with
  | .append, .lst l, x => if l.length < sizeLine then some (.lst (l ++ [x])) else none
  | .extend, .lst l, .lst m => if l.length + m.length ≤ sizeLine then some (.lst (l ++ m)) else none
  | .remove, .lst l, x => (removeP x l).map .lst
  | _, _, _ => none
def setO (o : O) (k x : P) : Option O := match o with
  | .lst l => match k with
    | .int i => (ixN l.length i).map fun j => .lst (l.set j x)
    | _ => none
  | .dk ks vs => (keyOf k).bind fun k => if ks.length < sizeLine then some (.dk (putv ks vs k x).1 (putv ks vs k x).2) else none
  | .dt ks vs => (tkeyOf k).bind fun k => if ks.length < sizeLine then some (.dt (putv ks vs k x).1 (putv ks vs k x).2) else none
  | _ => none
def rng (lo hi : Int) : List P := (List.range (hi - lo).toNat).map fun (k : Nat) => .int (lo + (k : Int))
def small62 (i : Int) : Bool := decide (-(2 ^ 62) ≤ i) && decide (i < 2 ^ 62)
/-- a comprehension's turns -/
def turns (step : P → Sto → Res (Option P)) : List P → List P → Sto → Res (List P)
  | [], acc, S => .ok acc S
  | x :: r, acc, S => (step x S).bind fun y S' => match y with
    | some y => if acc.length < sizeLine then turns step r (acc ++ [y]) S' else .bad
    | none => turns step r acc S'
def turnsD (step : P → Sto → Res (Option (Key × P))) : List P → List Key → List P → Sto → Res (List Key × List P)
  | [], ks, vs, S => .ok (ks, vs) S
  | x :: r, ks, vs, S => (step x S).bind fun y S' => match y with
    | some (k, v) => if ks.length < sizeLine then turnsD step r (putv ks vs k v).1 (putv ks vs k v).2 S' else .bad
    | none => turnsD step r ks vs S'
/-- a turn -/
def stepL (own : List Nat) (tg : Tg) (fc : List (Option D) → Sto → Res Bool) (fe : List (Option D) → Sto → Res D) (ρ : List (Option D)) : P → Sto → Res (Option P) := fun x S => match setTg tg x (wipeR ρ own) with
  | some ρ' => (fc ρ' S).bind fun t S => if t then (fe ρ' S).bind fun d S => (frz S d).bind fun p S => .ok (some p) S else .ok none S
  | none => .bad
def stepD (own : List Nat) (tg : Tg) (fc : List (Option D) → Sto → Res Bool) (fk fv : List (Option D) → Sto → Res D) (ρ : List (Option D)) : P → Sto → Res (Option (Key × P)) := fun x S => match setTg tg x (wipeR ρ own) with
  | some ρ' => (fc ρ' S).bind fun t S => if t then (fk ρ' S).bind fun d S => (fv ρ' S).bind fun e S => (frz S e).bind fun p S => match d with
      | .p q => match keyOf q with
        | some q => .ok (some (q, p)) S
        | none => .bad
      | _ => .bad else .ok none S
  | none => .bad
/-- no error leaves -/
def calm {α : Type} (r : Res α) : Res α := match r with
  | .rse .. => .bad
  | r => r
def isLst (S : Sto) : D → Bool
  | .box n => match S[n]? with
    | some (some (.lst _)) => true
    | _ => false
  | .p _ => false
/-- an instance: what its class is -/
def isIns (c : Nat) (S : Sto) : D → Bool
  | .p (.ins c' _ _) => c == c'
  | .p _ => false
  | .box n => match S[n]? with
    | some (some (.ins c' _ _)) => c == c'
    | _ => false
/-- no attribute of this name -/
def noAttr (S : Sto) (m : Str) : D → Bool
  | .p (.ins _ ns _) => !hasK ns m
  | .p _ => false
  | .box n => match S[n]? with
    | some (some (.ins _ ns _)) => !hasK ns m
    | _ => false
def fieldOf (S : Sto) (f : Str) : D → Option D
  | .p (.ins _ ns vs) => (look ns vs f).map .p
  | .p _ => none
  | .box n => match S[n]? with
    | some (some (.ins _ ns vs)) => (ns.zip vs).lookup f
    | _ => none

/-! ### calls: what a def does with its arguments, data or boxes' contents -/
inductive Arg where
  | p (x : P) | o (x : O)
/-- a def's end: what it gives (data, or a new thing of its own), the boxes' contents behind it -/
inductive LR where
  | ok (r : Arg) (os : List O) | rse (c : Nat) (ns : List Str) (vs : List P) (os : List O) | bad
def numA (k : Nat) : List Arg → List D
  | [] => []
  | .p x :: l => .p x :: numA k l
  | .o _ :: l => .box k :: numA (k + 1) l
def boxesA : List Arg → Sto
  | [] => []
  | .p _ :: l => boxesA l
  | .o o :: l => some o :: boxesA l
def toArgs (S : Sto) : List D → Option (List Arg × List Nat)
  | [] => some ([], [])
  | .p x :: l => (toArgs S l).map fun r => (.p x :: r.1, r.2)
  | .box n :: l => match S[n]? with
    | some (some o) => (toArgs S l).map fun r => (.o o :: r.1, n :: r.2)
    | _ => none
def setOuts (S : Sto) : List Nat → List O → Sto
  | n :: ns, o :: os => (setOuts S ns os).set n (some o)
  | _, _ => S
/-- no box within -/
def O.pure : O → Bool
  | .ins _ _ vs => (pureD vs).isSome
  | _ => true
/-- a box's content without boxes -/
def purO : Option O → Bool
  | some o => o.pure
  | none => true
def callA (f : List Arg → LR) (ds : List D) (S : Sto) : Res D := match toArgs S ds with
  | none => .bad
  | some (as, ns) => if ns.Nodup ∧ (boxesA as).all purO = true then match f as with
      | .ok (.p r) os => if os.length = ns.length ∧ os.all O.pure = true then .ok (.p r) (setOuts S ns os) else .bad
      | .ok (.o o) os => if os.length = ns.length ∧ os.all O.pure = true ∧ o.pure = true then .ok (.box S.length) (setOuts S ns os ++ [some o]) else .bad
      | .rse c xs vs os => if os.length = ns.length ∧ os.all O.pure = true then .rse c xs vs (setOuts S ns os) else .bad
      | .bad => .bad
    else .bad
/-- C(..): what a constructor does -/
def mkF (fz : Bool) (c : Nat) (Fn : List Arg → LR) (qs : List P) (S : Sto) : Res D := match Fn (.o (.ins c [] []) :: qs.map .p) with
  | .ok (.p .non) [o] => if o.pure then boxIf (!fz) o S else .bad
  | .rse c xs vs [o] => if o.pure then .rse c xs vs S else .bad
  | _ => .bad
section
variable (Φ : Nat → List Arg → LR)
abbrev Ev := List (Option D) → Sto → Res D
mutual
def ev : IE → List (Option D) → Sto → Res D
  | .var i => fun ρ S => match ρ[i]? with
    | some (some d) => .ok d S
    | _ => .bad
  | .cst p => fun _ S => .ok (.p p) S
  | .o1 o a => fun ρ S => (ev a ρ S).bind fun d S => optR ((view S d).bind fun x => (prim1 o x).map .p) S
  | .o2 o a b => fun ρ S => (ev a ρ S).bind fun d S => (ev b ρ S).bind fun e S =>
      optR ((view S d).bind fun x => (view S e).bind fun y => (prim2 o x y).map .p) S
  | .get a b c => fun ρ S => (ev a ρ S).bind fun d S => if ((view S d).map isDict) = some true then (ev b ρ S).bind fun e S => (ev c ρ S).bind fun g S =>
      match g with
      | .p z => optR ((view S d).bind fun x => (view S e).bind fun y => (getP x y z).map .p) S
      | .box _ => .bad
      else .bad
  | .slice a bl bh lo hi => fun ρ S => (ev a ρ S).bind fun d S => ((ev lo ρ S).bind fun e S => optR (partOf bl e) S).bind fun l S => ((ev hi ρ S).bind fun g S => optR (partOf bh g) S).bind fun h S =>
      optR ((view S d).bind fun x => (sliceP x l h).map .p) S
  | .and a b => fun ρ S => (ev a ρ S).bind fun d S => match d with
    | .p (.bl true) => ev b ρ S
    | .p (.bl false) => .ok (.p (.bl false)) S
    | _ => .bad
  | .or a b => fun ρ S => (ev a ρ S).bind fun d S => match d with
    | .p (.bl true) => .ok (.p (.bl true)) S
    | .p (.bl false) => ev b ρ S
    | _ => .bad
  | .ifx c a b => fun ρ S => (evT c ρ S).bind fun t S => if t then ev a ρ S else ev b ρ S
  | .chain o p a b c => fun ρ S => (ev a ρ S).bind fun d S => (ev b ρ S).bind fun e S =>
      match (view S d).bind fun x => (view S e).bind fun y => prim2 o x y with
      | some (.bl true) => (ev c ρ S).bind fun g S => optR ((view S e).bind fun x => (view S g).bind fun y => (prim2 p x y).map .p) S
      | some (.bl false) => .ok (.p (.bl false)) S
      | _ => .bad
  | .tup l => fun ρ S => (evL l ρ S).bind fun ds S => (frzL S ds).bind fun ps S => if ps.length ≤ sizeLine then .ok (.p (.tup ps)) S else .bad
  | .lst bx l => fun ρ S => (evL l ρ S).bind fun ds S => (frzL S ds).bind fun ps S => if ps.length ≤ sizeLine then boxIf bx (.lst ps) S else .bad
  | .dnew => fun _ S => boxIf true (.dk [] []) S
  | .call fz i dfl l => fun ρ S => (evL l ρ S).bind fun ds S =>
      if fz then (frzL S ds).bind fun ps S => callA (Φ i) (ps.map .p ++ dfl.map .p) S else callA (Φ i) (ds ++ dfl.map .p) S
  | .meth fz c m i l => fun ρ S => match l with
    | .nil => .bad
    | .cons e l => (ev e ρ S).bind fun d S => if isIns c S d && noAttr S m d then (evL l ρ S).bind fun ds S =>
        (if fz then (frzL S (d :: ds)).bind fun ps S => callA (Φ i) (ps.map .p) S else callA (Φ i) (d :: ds) S) else .bad
  | .own1 c i a => fun ρ S => (ev a ρ S).bind fun d S => if isIns c S d then (callA (Φ i) [d] S).bind fun r S => match r with
        | .p (.int n) => if 0 ≤ n ∧ n < 2 ^ 63 then .ok (.p (.int n)) S else .bad
        | _ => .bad
      else .bad
  | .own2 c i a b => fun ρ S => (ev a ρ S).bind fun d S => (ev b ρ S).bind fun e S => if isIns c S d && isIns c S e then callA (Φ i) [d, e] S else .bad
  | .ne c i a b => fun ρ S => (ev a ρ S).bind fun d S => (ev b ρ S).bind fun e S =>
      if isIns c S d && isIns c S e then (callA (Φ i) [d, e] S).bind fun r S => match r with
        | .p (.bl b) => .ok (.p (.bl (!b))) S
        | _ => .bad
      else .bad
  | .isin c i x o => fun ρ S => (ev x ρ S).bind fun d S => (ev o ρ S).bind fun e S =>
      if isIns c S e then (callA (Φ i) [e, d] S).bind fun r S => match r with
        | .p (.bl b) => .ok (.p (.bl b)) S
        | _ => .bad
      else .bad
  | .mk fz c i dfl l => fun ρ S => (evL l ρ S).bind fun ds S => (frzL S ds).bind fun ps S => mkF fz c (Φ i) (ps ++ dfl) S
  | .mkx _ c f l => fun ρ S => (evL l ρ S).bind fun ds S => (frzL S ds).bind fun ps S => match ps with
    | [x] => .ok (.p (match f with | some f => .exc c [f] [x] | none => .exc c [] [])) S
    | _ => .bad
  | .fld c f e => fun ρ S => (ev e ρ S).bind fun d S => if isIns c S d then optR (fieldOf S f d) S else .bad
  | .mut m o a => fun ρ S => (ev o ρ S).bind fun d S => if isLst S d = false then .bad else (ev a ρ S).bind fun e S => (match m with
      | .extend => optR (view S e) S
      | _ => frz S e).bind fun x S => match d with
      | .box n => match S[n]? with
        | some (some ob) => match mutO m ob x with
          | some ob' => .ok (.p .non) (S.set n (some ob'))
          | none => .bad
        | _ => .bad
      | .p _ => .bad
  | .lc bx own elt tg src cond => fun ρ S => (evS src ρ S).bind fun items S => (calm (turns (stepL own tg (evT cond) (ev elt) ρ) items [] S)).bind fun l S => boxIf bx (.lst l) S
  | .dc bx own k v tg src cond => fun ρ S => (evS src ρ S).bind fun items S => (calm (turnsD (stepD own tg (evT cond) (ev k) (ev v) ρ) items [] [] S)).bind fun l S => boxIf bx (.dk l.1 l.2) S
def evT : IT → List (Option D) → Sto → Res Bool
  | .tt => fun _ S => .ok true S
  | .tr e => fun ρ S => (ev e ρ S).bind fun d S => optR ((view S d).bind truth) S
  | .not t => fun ρ S => (evT t ρ S).bind fun b S => .ok (!b) S
  | .and t u => fun ρ S => (evT t ρ S).bind fun b S => if b then evT u ρ S else .ok false S
  | .or t u => fun ρ S => (evT t ρ S).bind fun b S => if b then .ok true S else evT u ρ S
def evL : IL → List (Option D) → Sto → Res (List D)
  | .nil => fun _ S => .ok [] S
  | .cons e l => fun ρ S => (ev e ρ S).bind fun d S => (evL l ρ S).bind fun ds S => .ok (d :: ds) S
/-- the items that are walked -/
def evS : Src → List (Option D) → Sto → Res (List P)
  | .seq e => fun ρ S => (ev e ρ S).bind fun d S => (frz S d).bind fun x S => match x with
    | .lst l => .ok l S
    | .tup l => .ok l S
    | .fls l => .ok l S
    | .ktup l => .ok l S
    | _ => .bad
  | .rng1 e => fun ρ S => (ev e ρ S).bind fun d S => match d with
    | .p (.int i) => if small62 i then .ok (rng 0 i) S else .bad
    | _ => .bad
  | .rng2 a b => fun ρ S => (ev a ρ S).bind fun d S => (ev b ρ S).bind fun e S => match d, e with
    | .p (.int i), .p (.int j) => if small62 i && small62 j then .ok (rng i j) S else .bad
    | _, _ => .bad
  | .items e => fun ρ S => (ev e ρ S).bind fun d S => (frz S d).bind fun x S => match x with
    | .dk ks vs => .ok ((ks.zip vs).map fun kv => .tup [ofKey kv.1, kv.2]) S
    | _ => .bad
  | .enum e => fun ρ S => (ev e ρ S).bind fun d S => (frz S d).bind fun x S => match x with
    | .lst l => .ok (((List.range l.length).zip l).map fun kv => .tup [.int (kv.1 : Nat), kv.2]) S
    | _ => .bad
  | .zip a b => fun ρ S => (ev a ρ S).bind fun d S => (ev b ρ S).bind fun e S => (frz S d).bind fun x S => (frz S e).bind fun y S => match x, y with
    | .lst l, .lst m => .ok ((l.zip m).map fun kv => .tup [kv.1, kv.2]) S
    | _, _ => .bad
end

/-! ### statements -/
inductive Out where
  | next (ρ : List (Option D)) (S : Sto) | ret (d : D) (S : Sto) | rse (ρ : List (Option D)) (c : Nat) (ns : List Str) (vs : List P) (S : Sto) | bad
def Res.out {α : Type} (r : Res α) (ρ : List (Option D)) (f : α → Sto → Out) : Out := match r with
  | .ok a S => f a S
  | .rse c ns vs S => .rse ρ c ns vs S
  | .bad => .bad
def Out.andThen (r : Out) (f : List (Option D) → Sto → Out) : Out := match r with
  | .next ρ S => f ρ S
  | r => r
def forO (body : P → List (Option D) → Sto → Out) : List P → List (Option D) → Sto → Out
  | [], ρ, S => .next ρ S
  | x :: r, ρ, S => (body x ρ S).andThen fun ρ S => forO body r ρ S
def whileO (c : List (Option D) → Sto → Res Bool) (body : List (Option D) → Sto → Out) : Nat → List (Option D) → Sto → Out
  | 0, _, _ => .bad
  | n + 1, ρ, S => (c ρ S).out ρ fun b S => if b then (body ρ S).andThen fun ρ S => whileO c body n ρ S else .next ρ S
variable (fuel : Nat)
mutual
def ex : IS → List (Option D) → Sto → Out
  | .set (.nm i) e => fun ρ S => (ev Φ e ρ S).out ρ fun d S => .next (ρ.set i (some d)) S
  | .set (.tp is) e => fun ρ S => (ev Φ e ρ S).out ρ fun d S => match d with
    | .p x => match setTg (.tp is) x ρ with
      | some ρ => .next ρ S
      | none => .bad
    | .box _ => .bad
  | .par i j a b => fun ρ S => (ev Φ a ρ S).out ρ fun d S => (ev Φ b ρ S).out ρ fun e S => if i = j then .bad else .next ((ρ.set i (some d)).set j (some e)) S
  | .par3 i j l a b c => fun ρ S => (ev Φ a ρ S).out ρ fun d S => (ev Φ b ρ S).out ρ fun e S => (ev Φ c ρ S).out ρ fun g S =>
      if i = j ∨ i = l ∨ j = l then .bad else .next (((ρ.set i (some d)).set j (some e)).set l (some g)) S
  | .aug o i e => fun ρ S => match ρ[i]? with
    | some (some (.p x)) => (ev Φ e ρ S).out ρ fun d S => match d with
      | .p y => match augP o x y with
        | some z => .next (ρ.set i (some (.p z))) S
        | none => .bad
      | _ => .bad
    | _ => .bad
  | .auge i e => fun ρ S => match ρ[i]? with
    | some (some (.box n)) => (ev Φ e ρ S).out ρ fun d S => match view S d with
      | some x => match S[n]? with
        | some (some ob) => match mutO .extend ob x with
          | some ob' => .next ρ (S.set n (some ob'))
          | none => .bad
        | _ => .bad
      | none => .bad
    | _ => .bad
  | .ixset o k v => fun ρ S => (ev Φ v ρ S).out ρ fun dv S => (frz S dv).out ρ fun x S => (ev Φ o ρ S).out ρ fun d S => (ev Φ k ρ S).out ρ fun dk S => match d, dk with
    | .box n, .p kx => match S[n]? with
      | some (some ob) => match setO ob kx x with
        | some ob' => .next ρ (S.set n (some ob'))
        | none => .bad
      | _ => .bad
    | _, _ => .bad
  | .ixaug q o k v => fun ρ S => (ev Φ o ρ S).out ρ fun d S => (ev Φ k ρ S).out ρ fun dk S => match d, dk with
    | .box n, .p kx => match (view S d).bind fun ob => prim2 .ix ob kx with
      | some old => (ev Φ v ρ S).out ρ fun dv S => match dv with
        | .p y => match augP q old y, S[n]? with
          | some z, some (some ob) => match setO ob kx z with
            | some ob' => .next ρ (S.set n (some ob'))
            | none => .bad
          | _, _ => .bad
        | _ => .bad
      | none => .bad
    | _, _ => .bad
  | .fset c0 f o v => fun ρ S => (ev Φ v ρ S).out ρ fun dv S => (ev Φ o ρ S).out ρ fun d S => match d with
    | .box n => match S[n]? with
      | some (some (.ins c ns vs)) => if c == c0 && decide (ns.length < 999) && decide ns.Nodup then (match (ns.zip vs).lookup f with
        | some _ => .next ρ (S.set n (some (.ins c ns ((ns.zip vs).map fun kv => if kv.1 = f then dv else kv.2))))
        | none => .next ρ (S.set n (some (.ins c (ns ++ [f]) (vs ++ [dv]))))) else .bad
      | _ => .bad
    | _ => .bad
  | .ex e => fun ρ S => (ev Φ e ρ S).out ρ fun _ S => .next ρ S
  | .iff c a b => fun ρ S => (evT Φ c ρ S).out ρ fun t S => if t then exs a ρ S else exs b ρ S
  | .whl c b => fun ρ S => whileO (evT Φ c) (exs b) fuel ρ S
  | .for_ tg src b => fun ρ S => (evS Φ src ρ S).out ρ fun items S => forO (fun x ρ S => match setTg tg x ρ with
    | some ρ => exs b ρ S
    | none => .bad) items ρ S
  | .ret fz e => fun ρ S => (ev Φ e ρ S).out ρ fun d S => if fz then (frz S d).out ρ fun p S => .ret (.p p) S else .ret d S
  | .retN => fun _ S => .ret (.p .non) S
  | .pass => fun ρ S => .next ρ S
  | .bad => fun _ _ => .bad
def exs : IB → List (Option D) → Sto → Out
  | .nil => fun ρ S => .next ρ S
  | .cons s b => fun ρ S => (ex s ρ S).andThen fun ρ S => exs b ρ S
end
/-- a def's body run: no return is None -/
def runB (b : IB) (n : Nat) (ds : List D) (S : Sto) : Res D := match exs Φ fuel b (ds.map some ++ List.replicate (n - ds.length) none) S with
  | .next _ S => .ok (.p .non) S
  | .ret d S => .ok d S
  | .rse _ c ns vs S => .rse c ns vs S
  | .bad => .bad
/-- what a body's run says of the def -/
def Says (r : Res D) (k : Nat) : LR → Prop
  | .ok (.p x) os => ∃ S, r = .ok (.p x) S ∧ os.length = k ∧ S.take k = os.map some
  | .ok (.o o) os => ∃ m S, r = .ok (.box m) S ∧ os.length = k ∧ S.take k = os.map some ∧ k ≤ m ∧ S[m]? = some (some o)
  | .rse c ns vs os => ∃ S, r = .rse c ns vs S ∧ os.length = k ∧ S.take k = os.map some
  | .bad => True
end
end PD
/-! What a result asks of the heap behind it; the operations on data are those of the machine. -/
namespace PD
open PySem L2
/-- an error's own fields -/
def XRep (K : PySem.W.Frag) (cl : Nat → Addr) (G H : Hp) (ns : List Str) (vs : List P) (dd : Option Addr) : Prop :=
  (ns = [] ∧ dd = none) ∨ ∃ d fs, dd = some d ∧ H d = some (.xd fs) ∧ fs.map (·.1) = ns ∧ RepL K cl G vs (fs.map (·.2))
/-- what is wanted of a result, from the state (μ, S, H) -/
def Sat {α β : Type} (K : PySem.W.Frag) (cl : Nat → Addr) (F μ : List Addr) (S : Sto) (H : Hp) (R : List Addr → Hp → α → β → Prop) (r : Res α) (W : XK) (Q : β → Hp → Prop) : Prop := match r with
  | .ok a S' => ∀ b μ' H', Bears K cl F μ' H' S' → Fra μ S H μ' S' H' → R μ' (Gz F μ' S' H') a b → Q b H'
  | .rse c ns vs S' => ∀ dd μ' H', Bears K cl F μ' H' S' → Fra μ S H μ' S' H' → XRep K cl (Gz F μ' S' H') H' ns vs dd → W (.ref (cl c)) dd H'
  | .bad => False
abbrev RD (K : PySem.W.Frag) (cl : Nat → Addr) : List Addr → Hp → D → V → Prop := fun μ G d v => RepD K cl μ G d v
abbrev RDL (K : PySem.W.Frag) (cl : Nat → Addr) : List Addr → Hp → List D → List V → Prop := fun μ G d v => RepDL K cl μ G d v
abbrev RP (K : PySem.W.Frag) (cl : Nat → Addr) : List Addr → Hp → P → V → Prop := fun _ G d v => Rep K cl G d v
abbrev RPL (K : PySem.W.Frag) (cl : Nat → Addr) : List Addr → Hp → List P → List V → Prop := fun _ G d v => RepL K cl G d v
abbrev RB : List Addr → Hp → Bool → Bool → Prop := fun _ _ a b => a = b
section
variable {K : PySem.W.Frag} {cl : Nat → Addr} {F μ μ' : List Addr} {S S' : Sto} {H H' : Hp} {G : Hp} {W : XK}
theorem Sat.mono {α β : Type} {R : List Addr → Hp → α → β → Prop} {r : Res α} {Q Q' : β → Hp → Prop} (h : Sat K cl F μ S H R r W Q) (q : ∀ b H, Q b H → Q' b H) : Sat K cl F μ S H R r W Q' := by
  cases r with
  | ok a S' => exact fun b μ' H' B f r => q _ _ (h b μ' H' B f r)
  | rse c ns vs S' => exact h
  | bad => exact h
/-- from a later state -/
theorem Sat.later {α β : Type} {R : List Addr → Hp → α → β → Prop} {r : Res α} {Q : β → Hp → Prop} (f : Fra μ S H μ' S' H') (h : Sat K cl F μ S H R r W Q) : Sat K cl F μ' S' H' R r W Q := by
  cases r with
  | ok a S2 => exact fun b μ2 H2 B g r => h b μ2 H2 B (f.trans g) r
  | rse c ns vs S2 => exact fun dd μ2 H2 B g r => h dd μ2 H2 B (f.trans g) r
  | bad => exact h
/-- one result, then what goes on with it -/
theorem Sat.bind {α β α' β' : Type} {R : List Addr → Hp → α → β → Prop} {R' : List Addr → Hp → α' → β' → Prop} {r : Res α'} {f : α' → Sto → Res α} {Q : β → Hp → Prop} (h : Sat K cl F μ S H R (r.bind f) W Q) :
    Sat K cl F μ S H R' r W (fun b H1 => ∃ a S1 μ1, Bears K cl F μ1 H1 S1 ∧ Fra μ S H μ1 S1 H1 ∧ R' μ1 (Gz F μ1 S1 H1) a b ∧ Sat K cl F μ1 S1 H1 R (f a S1) W Q) := by
  cases r with
  | ok a S1 => exact fun b μ1 H1 B g rr => ⟨a, S1, μ1, B, g, rr, Sat.later g h⟩
  | rse c ns vs S' => exact h
  | bad => exact h
theorem Sat.opt {α β : Type} {R : List Addr → Hp → α → β → Prop} {o : Option α} {Q : β → Hp → Prop} (h : Sat K cl F μ S H R (optR o S') W Q) : ∃ a, o = some a ∧ Sat K cl F μ S H R (.ok a S') W Q := by
  cases o with
  | none => exact h.elim
  | some a => exact ⟨a, rfl, h⟩
/-- a freezing: no heap changes -/
theorem Sat.frz {α β : Type} {R : List Addr → Hp → α → β → Prop} {d : D} {v : V} {f : P → Sto → Res α} {Q : β → Hp → Prop} (B : Bears K cl F μ H S) (r : RepD K cl μ (Gz F μ S H) d v)
    (h : Sat K cl F μ S H R ((frz S d).bind f) W Q) : ∃ p S1, frz S d = .ok p S1 ∧ S1.length = S.length ∧ Bears K cl F μ H S1 ∧ Fra μ S H μ S1 H ∧ Rep K cl (Gz F μ S1 H) p v ∧ Sat K cl F μ S1 H R (f p S1) W Q := by
  cases d with
  | p x => exact ⟨x, S, rfl, rfl, B, Fra.refl, r, h⟩
  | box n =>
    obtain ⟨a, rfl, hn⟩ := r
    unfold PD.frz at h ⊢
    cases hs : S[n]? with
    | none => simp only [hs] at h; exact h.elim
    | some oo =>
      cases oo with
      | none => simp only [hs] at h; exact h.elim
      | some o =>
        simp only [hs] at h ⊢
        cases hc : cont o with
        | none => rw [hc] at h; exact h.elim
        | some p =>
          rw [hc] at h
          obtain ⟨B1, f1, r1⟩ := B.freeze hn hs hc
          exact ⟨p, _, rfl, by rw [List.length_set], B1, f1, r1, Sat.later f1 h⟩
theorem Sat.frzL {α β : Type} {R : List Addr → Hp → α → β → Prop} {Q : β → Hp → Prop} : ∀ {ds : List D} {vs : List V} {S : Sto} {f : List P → Sto → Res α}, Bears K cl F μ H S → RepDL K cl μ (Gz F μ S H) ds vs →
    Sat K cl F μ S H R ((frzL S ds).bind f) W Q → ∃ ps S1, PD.frzL S ds = .ok ps S1 ∧ S1.length = S.length ∧ Bears K cl F μ H S1 ∧ Fra μ S H μ S1 H ∧ RepL K cl (Gz F μ S1 H) ps vs ∧ Sat K cl F μ S1 H R (f ps S1) W Q
  | [], vs, S, f, B, r, h => ⟨[], S, rfl, rfl, B, Fra.refl, r, h⟩
  | d :: ds, _, S, f, B, ⟨v, t, e, r1, r2⟩, h => by
    have h' : Sat K cl F μ S H R ((PD.frz S d).bind fun p S => (PD.frzL S ds).bind fun ps S => f (p :: ps) S) W Q := by
      have e2 : (PD.frzL S (d :: ds)).bind f = (PD.frz S d).bind fun p S => (PD.frzL S ds).bind fun ps S => f (p :: ps) S := by
        show ((PD.frz S d).bind fun p S => (PD.frzL S ds).bind fun ps S => Res.ok (p :: ps) S).bind f = _
        cases PD.frz S d with
        | ok p S1 =>
          show ((PD.frzL S1 ds).bind fun ps S => Res.ok (p :: ps) S).bind f = (PD.frzL S1 ds).bind fun ps S => f (p :: ps) S
          cases PD.frzL S1 ds <;> rfl
        | rse _ _ _ _ => rfl
        | bad => rfl
      rw [← e2]; exact h
    obtain ⟨p, S1, e1, l1, B1, f1, q1, h1⟩ := Sat.frz B r1 h'
    obtain ⟨ps, S2, e2, l2, B2, f2, q2, h2⟩ := Sat.frzL B1 (RepDL.mono f1.pre f1.gle r2) h1
    refine ⟨p :: ps, S2, ?_, l2.trans l1, B2, f1.trans f2, ⟨v, t, e, Rep.mono f2.gle _ _ q1, q2⟩, h2⟩
    show (PD.frz S d).bind _ = _
    rw [e1]
    show (PD.frzL S1 ds).bind _ = _
    rw [e2]
    rfl
theorem repDL_p : ∀ {ps : List P} {vs : List V}, RepL K cl G ps vs → RepDL K cl μ G (ps.map .p) vs
  | [], _, h => h
  | p :: ps, _, ⟨v, t, e, h1, h2⟩ => ⟨v, t, e, h1, repDL_p h2⟩
theorem RepDL.app : ∀ {l m : List D} {xs ys : List V}, RepDL K cl μ G l xs → RepDL K cl μ G m ys → RepDL K cl μ G (l ++ m) (xs ++ ys)
  | [], _, _, _, h, k => by rw [show _ = [] from h]; exact k
  | p :: l, _, _, _, ⟨v, r, e, h, t⟩, k => by
    rw [e]
    exact ⟨v, r ++ _, rfl, h, RepDL.app t k⟩

/-! ### what may be read of a thing that stands for data -/
/-- the outermost thing read in H, what is in it in G -/
def Vw (K : PySem.W.Frag) (cl : Nat → Addr) (G H : Hp) : P → V → Prop
  | .lst l, v => ∃ a xs, v = .ref a ∧ H a = some (.lst xs) ∧ RepL K cl G l xs
  | .dk ks vs, v => ∃ a kvs, v = .ref a ∧ Rd H a (.dK kvs) ∧ kvs.map (·.1) = ks ∧ RepL K cl G vs (kvs.map (·.2))
  | .dt ks vs, v => ∃ a kvs, v = .ref a ∧ Rd H a (.dT kvs) ∧ kvs.map (·.1) = ks ∧ RepL K cl G vs (kvs.map (·.2))
  | .ins c ns vs, v => ∃ a dx ys, v = .ref a ∧ H a = some (.ins (cl c) dx ys) ∧ ys.map (·.1) = ns ∧ RepL K cl G vs (ys.map (·.2))
  | p, v => Rep K cl G p v
theorem gz_gle : Gle (Gz F μ S H) H := Gle.of fun a u h => (gz_some h).2.2
theorem vw_rep {p : P} {v : V} (h : Rep K cl G p v) (g : Gle G H) : Vw K cl G H p v := by
  cases p with
  | non => exact h
  | bl b => exact h
  | int i => exact h
  | str s => exact h
  | tup l => exact h
  | lst l => obtain ⟨a, xs, e, h, r⟩ := h; exact ⟨a, xs, e, g.ex a _ trivial h, r⟩
  | ktup l => exact h
  | fls l => exact h
  | dk ks vs => obtain ⟨a, xs, e, h, r⟩ := h; exact ⟨a, xs, e, g.rd a _ h, r⟩
  | dt ks vs => obtain ⟨a, xs, e, h, r⟩ := h; exact ⟨a, xs, e, g.rd a _ h, r⟩
  | ins c ns vs => obtain ⟨a, dx, ys, e, h, r⟩ := h; exact ⟨a, dx, ys, e, g.ex a _ trivial h, r⟩
  | exc c ns vs => exact h
theorem view_vw {d : D} {v : V} {p : P} (B : Bears K cl F μ H S) (r : RepD K cl μ (Gz F μ S H) d v) (h : view S d = some p) : Vw K cl (Gz F μ S H) H p v := by
  cases d with
  | p x => cases h; exact vw_rep r gz_gle
  | box n =>
    obtain ⟨a, rfl, hn⟩ := r
    unfold view at h
    cases hs : S[n]? with
    | none => simp only [hs] at h; cases h
    | some oo =>
      cases oo with
      | none => simp only [hs] at h; cases h
      | some o =>
        simp only [hs] at h
        have q := B.obj n a o hn hs
        cases o with
        | lst l => cases h; obtain ⟨xs, e, r⟩ := q; exact ⟨a, xs, rfl, e, r⟩
        | dk ks vs => cases h; obtain ⟨kvs, e, k, r⟩ := q; exact ⟨a, kvs, rfl, .inl e, k, r⟩
        | dt ks vs => cases h; obtain ⟨kvs, e, k, r⟩ := q; exact ⟨a, kvs, rfl, .inl e, k, r⟩
        | ins c ns vs =>
          obtain ⟨dx, ys, e, k, r⟩ := q
          simp only [cont] at h
          cases hm : pureD vs with
          | none => rw [hm] at h; cases h
          | some ws => rw [hm] at h; cases h; exact ⟨a, dx, ys, rfl, e, k, repDL_pure hm r⟩
/-- a value of a plain kind -/
theorem vw_int {i : Int} {v : V} (h : Vw K cl G H (.int i) v) : v = .int i := h
theorem vw_bl {i : Bool} {v : V} (h : Vw K cl G H (.bl i) v) : v = .bl i := h
theorem vw_str {i : Str} {v : V} (h : Vw K cl G H (.str i) v) : v = .str i := h
theorem vw_non {v : V} (h : Vw K cl G H .non v) : v = .non := h

/-! ### handing on a piece of data -/
theorem give {p : P} {v : V} {Q : VK} (B : Bears K cl F μ H S) (h : Sat K cl F μ S H (RD K cl) (.ok (.p p) S) W Q) (r : Rep K cl (Gz F μ S H) p v) : Q v H := h v μ H B Fra.refl r
theorem gz_fresh {p : Addr} {o : HO} (B : Bears K cl F μ H S) (hp : H p = none) : Gz F μ S (upd H p o) p = some o := by
  rw [gz_of (fun ⟨n, x, h, _⟩ => B.dom n p h hp) (fun h => B.hd p h hp), upd_same]
theorem give_lst {l : List P} {xs : List V} {Q : VK} (B : Bears K cl F μ H S) (h : Sat K cl F μ S H (RD K cl) (.ok (.p (.lst l)) S) W Q) (r : RepL K cl (Gz F μ S H) l xs) (p : Addr) (hp : H p = none) : Q (.ref p) (upd H p (.lst xs)) := by
  obtain ⟨B1, f1⟩ := B.fresh (o := .lst xs) hp
  exact h _ μ _ B1 f1 ⟨p, xs, rfl, gz_fresh B hp, RepL.mono f1.gle _ _ r⟩
theorem give_tup {l : List P} {xs : List V} {Q : VK} (B : Bears K cl F μ H S) (h : Sat K cl F μ S H (RD K cl) (.ok (.p (.tup l)) S) W Q) (r : RepL K cl (Gz F μ S H) l xs) (p : Addr) (hp : H p = none) : Q (.ref p) (upd H p (.tup xs)) := by
  obtain ⟨B1, f1⟩ := B.fresh (o := .tup xs) hp
  exact h _ μ _ B1 f1 ⟨p, xs, rfl, gz_fresh B hp, RepL.mono f1.gle _ _ r⟩
theorem atI_rep {l : List P} {xs : List V} {i : Int} {p : P} (r : RepL K cl G l xs) (h : atI l i = some p) : ∃ v, atI xs i = some v ∧ Rep K cl G p v := by
  unfold atI at h ⊢
  rw [r.len] at h
  cases hi : ixN xs.length i with
  | none => rw [hi] at h; cases h
  | some j =>
    rw [hi] at h
    exact r.get h
theorem cut_rep {l : List P} {xs : List V} {lo hi : Option Int} (r : RepL K cl G l xs) : RepL K cl G (cutP l lo hi) (cutV xs lo hi) := by
  unfold cutP cutV
  rw [r.len]
  exact (r.drop _).take _
theorem RepL.rep {l : List P} {xs : List V} (r : RepL K cl G l xs) : ∀ n : Nat, RepL K cl G (List.replicate n l).flatten (List.replicate n xs).flatten
  | 0 => rfl
  | n + 1 => by
    rw [List.replicate_succ, List.replicate_succ, List.flatten_cons, List.flatten_cons]
    exact r.app (RepL.rep r n)
theorem repL_ints : ∀ (ns : List Int), RepL K cl G (ns.map .int) (ns.map V.int)
  | [] => rfl
  | n :: ns => ⟨_, _, rfl, rfl, repL_ints ns⟩
/-! ### keys -/
theorem key_of {p : P} {k : Key} {v : V} (h : keyOf p = some k) (r : Vw K cl G H p v) : v = kV k := by
  cases p <;> simp only [keyOf] at h <;> cases h <;> exact r
theorem key_rep : ∀ k : Key, Rep K cl G (ofKey k) (kV k)
  | .inl _ => rfl
  | .inr _ => rfl
theorem keys_of : ∀ {l : List P} {ks : List Key} {xs : List V}, keysOf l = some ks → RepL K cl G l xs → xs = ks.map kV
  | [], ks, xs, h, r => by cases h; exact r
  | p :: l, ks, xs, h, ⟨v, t, e, r1, r2⟩ => by
    simp only [keysOf] at h
    cases hk : keyOf p with
    | none => rw [hk] at h; cases h
    | some k =>
      cases hl : keysOf l with
      | none => rw [hk, hl] at h; cases h
      | some ks' =>
        rw [hk, hl] at h
        cases h
        have e1 : v = kV k := by
          cases p <;> simp only [keyOf] at hk <;> cases hk <;> exact r1
        rw [e, e1, keys_of hl r2]
        rfl
section
variable {κ : Type} [DecidableEq κ]
theorem look_val : ∀ {kvs : List (κ × V)} {ks : List κ} {vs : List P} {x : κ}, kvs.map (·.1) = ks → RepL K cl G vs (kvs.map (·.2)) →
    (∀ p, look ks vs x = some p → ∃ v, valV kvs x = some v ∧ Rep K cl G p v) ∧ (look ks vs x = none → valV kvs x = none)
  | [], ks, vs, x, h, r => by
    cases h
    exact ⟨fun p q => by (cases vs <;> cases q), fun _ => rfl⟩
  | (k, v) :: kvs, ks, vs, x, h, r => by
    cases h
    cases vs with
    | nil => cases (show (v :: _ : List V) = [] from r)
    | cons p vs =>
      obtain ⟨v', t, e, r1, r2⟩ := r
      cases e
      have ih := look_val (kvs := kvs) (x := x) rfl r2
      have e0 : ((k, v) :: kvs).map (·.1) = k :: kvs.map (·.1) := rfl
      rw [e0]
      by_cases c : k = x
      · refine ⟨fun q hq => ⟨v, ?_, ?_⟩, fun hq => ?_⟩
        · simp [valV, c]
        · simp only [look, if_pos c] at hq
          cases hq
          exact r1
        · simp only [look, if_pos c] at hq
          cases hq
      · have e1 : look (k :: kvs.map (·.1)) (p :: vs) x = look (kvs.map (·.1)) vs x := by simp [look, c]
        have e2 : valV ((k, v) :: kvs) x = valV kvs x := by simp [valV, c]
        rw [e1, e2]
        exact ih
theorem valV_some_in {kvs : List (κ × V)} {x : κ} : (valV kvs x).isSome = decide (x ∈ kvs.map (·.1)) := by
  induction kvs with
  | nil => simp [valV]
  | cons kv kvs ih =>
    by_cases c : kv.1 = x
    · simp [valV, c]
    · have e2 : valV (kv :: kvs) x = valV kvs x := by simp [valV, c]
      rw [e2, ih]
      simp [Ne.symm c, eq_comm]
theorem zip_map_same (x : κ) : ∀ (kvs : List (κ × V)) (vs : List P) (p : P) (v : V), RepL K cl G vs (kvs.map (·.2)) → Rep K cl G p v →
    RepL K cl G (((kvs.map (·.1)).zip vs).map fun kv => if kv.1 = x then p else kv.2) ((kvs.map fun kv => if kv.1 = x then (kv.1, v) else kv).map (·.2))
  | [], vs, p, v, r, rp => by
    show RepL K cl G (([].zip vs).map _) []
    rfl
  | (k, w) :: kvs, vs, p, v, r, rp => by
    cases vs with
    | nil => cases (show (w :: _ : List V) = [] from r)
    | cons q vs =>
      obtain ⟨v', t, e, r1, r2⟩ := r
      cases e
      by_cases c : k = x
      · refine ⟨v, _, ?_, ?_, zip_map_same x kvs vs p v r2 rp⟩
        · simp [c]
        · simp [c]; exact rp
      · refine ⟨w, _, ?_, ?_, zip_map_same x kvs vs p v r2 rp⟩
        · simp [c]
        · simp [c]; exact r1
theorem put_rep {kvs : List (κ × V)} {ks : List κ} {vs : List P} {x : κ} {p : P} {v : V} (hk : kvs.map (·.1) = ks) (r : RepL K cl G vs (kvs.map (·.2))) (rp : Rep K cl G p v) :
    (putK kvs x v).map (·.1) = (putv ks vs x p).1 ∧ RepL K cl G (putv ks vs x p).2 ((putK kvs x v).map (·.2)) := by
  subst hk
  unfold putK putv
  have e : ((kvs.any fun kv => decide (kv.1 = x)) = true) ↔ x ∈ kvs.map (·.1) := by
    simp [List.any_eq_true]
  by_cases c : x ∈ kvs.map (·.1)
  · rw [if_pos (e.mpr c), if_pos c]
    refine ⟨?_, zip_map_same x kvs vs p v r rp⟩
    rw [List.map_map]
    apply List.map_congr_left
    intro kv _
    show (if kv.1 = x then (kv.1, v) else kv).1 = kv.1
    split <;> rfl
  · rw [if_neg (fun z => c (e.mp z)), if_neg c]
    exact ⟨by simp, by simpa using r.app (RepL.one rp)⟩
end
end
end PD
/-! The machine's operations on values that stand for data. -/
namespace PD
open PySem L2 PySem.Spec PyProof.Rows
section
variable {X : Cx} {cl : Nat → Addr} {W : XK}
def RO1 (X : Cx) (cl : Nat → Addr) (W : XK) (o : Op1) : V → Hp → VK → Prop := fun x H Q => ∃ F μ S p z, Bears X.K cl F μ H S ∧ Vw X.K cl (Gz F μ S H) H p x ∧ prim1 o p = some z ∧ Sat X.K cl F μ S H (RD X.K cl) (.ok (.p z) S) W Q
def RO2 (X : Cx) (cl : Nat → Addr) (W : XK) (o : Op2) : R2 := fun x y H Q => ∃ F μ S p q z, Bears X.K cl F μ H S ∧ Vw X.K cl (Gz F μ S H) H p x ∧ Vw X.K cl (Gz F μ S H) H q y ∧ prim2 o p q = some z ∧ Sat X.K cl F μ S H (RD X.K cl) (.ok (.p z) S) W Q

/-! ### arithmetic -/
theorem bin_add : OpR X (binaryOp .Add) (RO2 X cl W .add) := by
  intro pins s σ H x y v u Q I rx ry h
  obtain ⟨F, μ, S, p, q, z, B, vp, vq, hz, h⟩ := h
  cases p <;> cases q <;> first | (cases hz; done) | skip
  · cases hz
    exact op_add pins s σ H x y v u Q I rx ry ⟨_, _, vp, vq, give B h rfl⟩
  · simp only [prim2] at hz
    split at hz
    · cases hz
      exact op_add_str pins s σ H x y v u Q I rx ry ⟨_, _, vp, vq, by assumption, give B h rfl⟩
    · cases hz
  · simp only [prim2] at hz
    split at hz
    · cases hz
      obtain ⟨a, xs, rfl, ha, ra⟩ := vp
      obtain ⟨b, ys, rfl, hb, rb⟩ := vq
      have ea := gz_gle.ex a (.tup xs) trivial ha
      have eb := gz_gle.ex b (.tup ys) trivial hb
      refine op_catA pins s σ H _ _ v u Q I rx ry ⟨a, b, xs, ys, rfl, rfl, .inl (.inl ea), .inl (.inl eb), by rw [← ra.len, ← rb.len]; assumption, fun e => ?_, fun _ e => ?_, fun _ _ p hp => give_tup B h (ra.app rb) p hp⟩
      · subst e
        have e2 := List.length_eq_zero_iff.mp ra.len
        subst e2
        exact give B h ⟨b, ys, rfl, hb, rb⟩
      · subst e
        have e2 := List.length_eq_zero_iff.mp rb.len
        subst e2
        exact give B h ⟨a, xs, rfl, ha, by rw [List.append_nil]; exact ra⟩
    · cases hz
  · simp only [prim2] at hz
    split at hz
    · cases hz
      obtain ⟨a, xs, rfl, ha, ra⟩ := vp
      obtain ⟨b, ys, rfl, hb, rb⟩ := vq
      exact op_cat pins s σ H _ _ v u Q I rx ry ⟨a, b, xs, ys, rfl, rfl, ha, hb, by rw [← ra.len, ← rb.len]; assumption, fun p hp => give_lst B h (ra.app rb) p hp⟩
    · cases hz
theorem bin_sub : OpR X (binaryOp .Sub) (RO2 X cl W .sub) := by
  intro pins s σ H x y v u Q I rx ry h
  obtain ⟨F, μ, S, p, q, z, B, vp, vq, hz, h⟩ := h
  cases p <;> cases q <;> first | (cases hz; done) | skip
  cases hz
  exact op_sub pins s σ H x y v u Q I rx ry ⟨_, _, vp, vq, give B h rfl⟩
theorem rep_len (s : Str) : ∀ (n : Nat) (a : Array Nat), ((List.replicate n s.cps).foldl (· ++ ·) a).size = a.size + n * s.length
  | 0, a => by simp
  | n + 1, a => by
    rw [List.replicate_succ, List.foldl_cons, rep_len s n, Array.size_append, Nat.succ_mul]
    show _ + s.length + _ = _
    omega
theorem op_mulStr : OpR X (binaryOp .Mult) (fun x y H Q => ∃ (t : Str) (k : Int), x = .str t ∧ y = .int k ∧ 0 ≤ k ∧ k ≤ 1000 ∧ t.length ≤ 1000 ∧ Q (.str (strRep t k)) H) := by
  intro pins s σ H x y v u Q I rx ry h
  obtain ⟨t, k, rfl, rfl, h0, h1, h2, q⟩ := h
  obtain ⟨tx, rfl⟩ := rx
  obtain ⟨tk, rfl⟩ := ry
  have small : t.length * k.toNat ≤ 1000 * 1000 := Nat.mul_le_mul h2 (by omega)
  refine PySem.P.mul_str (by
    rw [decide_eq_false (by omega), decide_eq_false (by omega)]
    rfl) (fun h3 _ h4 => ?_) (fun _ _ => ?_) ?_
  · have h5 : (t.length : Int) ≤ (2 ^ 63 - 1) / k := Int.le_ediv_of_mul_le (by omega) (by
      have h6 : (t.length : Int) * k = ((t.length * k.toNat : Nat) : Int) := by rw [Int.natCast_mul, Int.toNat_of_nonneg h0]
      rw [h6]
      omega)
    omega
  · show decide (t.length * k.toNat > sizeLine) = false
    rw [sizeLine_eq]
    exact decide_eq_false (by omega)
  · have put : ∀ {y : Str}, strRep t k = y → y.length ≤ 1000 * 1000 → (Made.str y).post (EP X pins σ Q) s := fun {y} e hl => by
      subst e
      exact ⟨by rw [sizeLine_eq]; omega, .str (strRep t k), H, I.tok _, ⟨_, rfl⟩, q⟩
    split
    · rename_i c
      exact put (if_pos c) (by decide)
    · rename_i c
      split
      · rename_i c2
        have e : strRep t k = t := by unfold strRep; rw [if_neg c, if_pos c2]
        rw [e] at q
        exact ⟨.str t, H, I, ⟨_, rfl⟩, q⟩
      · rename_i c2
        refine put (by unfold strRep; rw [if_neg c, if_neg c2]) ?_
        show ((List.replicate k.toNat t.cps).foldl (· ++ ·) #[]).size ≤ _
        rw [rep_len, Nat.mul_comm k.toNat]
        simpa using small
theorem bin_mul : OpR X (binaryOp .Mult) (RO2 X cl W .mul) := by
  intro pins s σ H x y v u Q I rx ry h
  obtain ⟨F, μ, S, p, q, z, B, vp, vq, hz, h⟩ := h
  cases p <;> cases q <;> first | (cases hz; done) | skip
  · simp only [prim2] at hz
    split at hz
    · cases hz
      exact op_mulW pins s σ H x y v u Q I rx ry ⟨_, _, vp, vq, by assumption, give B h rfl⟩
    · cases hz
  · simp only [prim2] at hz
    split at hz
    · rename_i c
      cases hz
      exact op_mulStr pins s σ H x y v u Q I rx ry ⟨_, _, vp, vq, c.1, c.2.1, c.2.2, give B h rfl⟩
    · cases hz
  · simp only [prim2] at hz
    split at hz
    · rename_i c
      cases hz
      obtain ⟨a, xs, rfl, ha, ra⟩ := vp
      exact op_rep pins s σ H _ _ v u Q I rx ry ⟨a, _, xs, rfl, vq, ha, c.1, c.2.1, by rw [← ra.len]; exact c.2.2, fun p hp => give_lst B h (ra.rep _) p hp⟩
    · cases hz
theorem bin_fdiv : OpR X (binaryOp .FloorDiv) (RO2 X cl W .fdiv) := by
  intro pins s σ H x y v u Q I rx ry h
  obtain ⟨F, μ, S, p, q, z, B, vp, vq, hz, h⟩ := h
  cases p <;> cases q <;> first | (cases hz; done) | skip
  simp only [prim2] at hz
  split at hz
  · cases hz
    exact op_fdivW pins s σ H x y v u Q I rx ry ⟨_, _, vp, vq, by assumption, give B h rfl⟩
  · cases hz
theorem bin_mod : OpR X (binaryOp .Mod) (RO2 X cl W .mod) := by
  intro pins s σ H x y v u Q I rx ry h
  obtain ⟨F, μ, S, p, q, z, B, vp, vq, hz, h⟩ := h
  cases p <;> cases q <;> first | (cases hz; done) | skip
  simp only [prim2] at hz
  split at hz
  · cases hz
    exact op_mod pins s σ H x y v u Q I rx ry ⟨_, _, vp, vq, by assumption, give B h rfl⟩
  · split at hz
    · cases hz
      exact op_modN pins s σ H x y v u Q I rx ry ⟨_, _, vp, vq, by assumption, give B h rfl⟩
    · cases hz
theorem bin_pow : OpR X (binaryOp .Pow) (RO2 X cl W .pow) := by
  intro pins s σ H x y v u Q I rx ry h
  obtain ⟨F, μ, S, p, q, z, B, vp, vq, hz, h⟩ := h
  cases p <;> cases q <;> first | (cases hz; done) | skip
  simp only [prim2] at hz
  split at hz
  · cases hz
    exact op_pow pins s σ H x y v u Q I rx ry ⟨_, _, vp, vq, by assumption, give B h rfl⟩
  · cases hz
def opOf : Operator → Option Op2
  | .Add => some .add | .Sub => some .sub | .Mult => some .mul | .FloorDiv => some .fdiv | .Mod => some .mod | .Pow => some .pow | _ => none
theorem bin_ok {op : Operator} {o : Op2} (h : opOf op = some o) : OpR X (binaryOp op) (RO2 X cl W o) := by
  cases op <;> cases h
  · exact bin_add
  · exact bin_sub
  · exact bin_mul
  · exact bin_mod
  · exact bin_pow
  · exact bin_fdiv

/-! ### comparisons of ints -/
theorem cmp_lt : OpR X (compareOp .Lt) (RO2 X cl W .lt) := by
  intro pins s σ H x y v u Q I rx ry h
  obtain ⟨F, μ, S, p, q, z, B, vp, vq, hz, h⟩ := h
  cases p <;> cases q <;> first | (cases hz; done) | skip
  cases hz
  exact op_lt pins s σ H x y v u Q I rx ry ⟨_, _, vp, vq, give B h rfl⟩
theorem cmp_le : OpR X (compareOp .LtE) (RO2 X cl W .le) := by
  intro pins s σ H x y v u Q I rx ry h
  obtain ⟨F, μ, S, p, q, z, B, vp, vq, hz, h⟩ := h
  cases p <;> cases q <;> first | (cases hz; done) | skip
  cases hz
  exact op_le pins s σ H x y v u Q I rx ry ⟨_, _, vp, vq, give B h rfl⟩
theorem cmp_gt : OpR X (compareOp .Gt) (RO2 X cl W .gt) := by
  intro pins s σ H x y v u Q I rx ry h
  obtain ⟨F, μ, S, p, q, z, B, vp, vq, hz, h⟩ := h
  cases p <;> cases q <;> first | (cases hz; done) | skip
  cases hz
  exact op_gt pins s σ H x y v u Q I rx ry ⟨_, _, vp, vq, give B h rfl⟩
theorem cmp_ge : OpR X (compareOp .GtE) (RO2 X cl W .ge) := by
  intro pins s σ H x y v u Q I rx ry h
  obtain ⟨F, μ, S, p, q, z, B, vp, vq, hz, h⟩ := h
  cases p <;> cases q <;> first | (cases hz; done) | skip
  cases hz
  exact op_ge pins s σ H x y v u Q I rx ry ⟨_, _, vp, vq, give B h rfl⟩

/-! ### data that == tells -/
section
variable {K : PySem.W.Frag} {G H : Hp}
mutual
theorem dp_rep (g : Gle G H) : ∀ (p : P) (v : V) (d : PyData), Rep K cl G p v → toPD p = some d → Dp K H v d
  | .non, _, d, h, e => by
    cases h; cases e; exact .non
  | .bl _, _, d, h, e => by
    cases h; cases e; exact .bl _
  | .int _, _, d, h, e => by
    cases h; cases e; exact .int _
  | .str _, _, d, h, e => by
    cases h; cases e; exact .str _
  | .tup l, _, d, ⟨a, xs, ev, h, r⟩, e => by
    subst ev
    have e' : (toPDs l).map PyData.tuple = some d := e
    obtain ⟨ds, e1, e2⟩ := Option.map_eq_some_iff.mp e'
    subst e2
    exact .tup (.inl (.inl (g.ex a _ trivial h))) (dp_reps g l xs ds r e1)
  | .lst l, _, d, ⟨a, xs, ev, h, r⟩, e => by
    subst ev
    have e' : (toPDs l).map PyData.list = some d := e
    obtain ⟨ds, e1, e2⟩ := Option.map_eq_some_iff.mp e'
    subst e2
    exact .lst (.inl (.inl (g.ex a _ trivial h))) (dp_reps g l xs ds r e1)
  | .ktup l, _, d, ⟨a, xs, ev, h, r⟩, e => by
    subst ev
    have e' : (toPDs l).map PyData.tuple = some d := e
    obtain ⟨ds, e1, e2⟩ := Option.map_eq_some_iff.mp e'
    subst e2
    exact .tup (g.sqT h) (dp_reps g l xs ds r e1)
  | .fls l, _, d, ⟨a, xs, ev, h, r⟩, e => by
    subst ev
    have e' : (toPDs l).map PyData.list = some d := e
    obtain ⟨ds, e1, e2⟩ := Option.map_eq_some_iff.mp e'
    subst e2
    exact .lst (g.sqL h) (dp_reps g l xs ds r e1)
  | .dk _ _, _, _, _, e => by cases e
  | .dt _ _, _, _, _, e => by cases e
  | .ins _ _ _, _, _, _, e => by cases e
  | .exc _ _ _, _, _, _, e => by cases e
theorem dp_reps (g : Gle G H) : ∀ (l : List P) (xs : List V) (ds : List PyData), RepL K cl G l xs → toPDs l = some ds → DpAll K H xs ds
  | [], _, ds, h, e => by
    cases e
    rw [show _ = [] from h]
    exact .nil
  | p :: l, _, ds, ⟨v, r, ev, h, t⟩, e => by
    subst ev
    simp only [toPDs] at e
    cases h1 : toPD p with
    | none => rw [h1] at e; cases e
    | some d1 =>
      cases h2 : toPDs l with
      | none => rw [h1, h2] at e; cases e
      | some ds2 =>
        rw [h1, h2] at e
        cases e
        exact .cons (dp_rep g p v d1 h h1) (dp_reps g l r ds2 t h2)
end
theorem dp_vw (g : Gle G H) {p : P} {v : V} {d : PyData} (h : Vw K cl G H p v) (e : toPD p = some d) : Dp K H v d := by
  cases p with
  | lst l =>
    obtain ⟨a, xs, ev, h, r⟩ := h
    subst ev
    have e' : (toPDs l).map PyData.list = some d := e
    obtain ⟨ds, e1, e2⟩ := Option.map_eq_some_iff.mp e'
    subst e2
    exact .lst (.inl (.inl h)) (dp_reps g l xs ds r e1)
  | dk _ _ => cases e
  | dt _ _ => cases e
  | ins _ _ _ => cases e
  | exc _ _ _ => cases e
  | non => exact dp_rep g _ v d h e
  | bl _ => exact dp_rep g _ v d h e
  | int _ => exact dp_rep g _ v d h e
  | str _ => exact dp_rep g _ v d h e
  | tup _ => exact dp_rep g _ v d h e
  | ktup _ => exact dp_rep g _ v d h e
  | fls _ => exact dp_rep g _ v d h e
theorem dataOf_some {p : P} {d : PyData} (h : dataOf p = some d) : toPD p = some d ∧ SeqAt.shaped d = true := by
  unfold dataOf at h
  cases e : toPD p with
  | none => rw [e] at h; cases h
  | some d' =>
    rw [e] at h
    simp only at h
    split at h
    · cases h; exact ⟨rfl, by assumption⟩
    · cases h
theorem datas_some : ∀ {l : List P} {ds : List PyData}, datas l = some ds → toPDs l = some ds ∧ ∀ d ∈ ds, SeqAt.shaped d = true
  | [], ds, h => by cases h; exact ⟨rfl, fun d hd => by cases hd⟩
  | p :: l, ds, h => by
    simp only [datas] at h
    cases h1 : dataOf p with
    | none => rw [h1] at h; cases h
    | some d1 =>
      cases h2 : datas l with
      | none => rw [h1, h2] at h; cases h
      | some ds2 =>
        rw [h1, h2] at h
        cases h
        obtain ⟨e1, s1⟩ := dataOf_some h1
        obtain ⟨e2, s2⟩ := datas_some h2
        refine ⟨by simp only [toPDs, e1, e2], fun d hd => ?_⟩
        rcases List.mem_cons.mp hd with rfl | hd
        · exact s1
        · exact s2 d hd
end
theorem reads_data {pins : List (Addr × Obj)} {s : Shared} {σ : L2.St} {H : Hp} {d : PyData} {x : V} {u : Value} (I : Inv X pins σ H s) (h : Dp X.K H x d) (r : RelV x u) : ∃ as, Reads s.heap u d as := Dp.reads I d x u h r
theorem eq_two {s : Shared} {a b : Value} {d e : PyData} {A : Around} (ra : ∃ as, Reads s.heap a d as) (rb : ∃ bs, Reads s.heap b e bs) (hd : SeqAt.shaped d = true) (he : SeqAt.shaped e = true) (hu : A.units + 64 < cLine) : SeqAt.EqAt A s a b (PyData.eqv d e) := by
  obtain ⟨as, ra⟩ := ra
  obtain ⟨bs, rb⟩ := rb
  exact SeqAt.eqAt_reads d e A s a b as bs ra rb (SeqAt.canLay_of_shaped hd) (SeqAt.canLay_of_shaped he) (SeqAt.room_of_shaped hd hu)

/-! ### dicts -/
theorem kv_look {pins : List (Addr × Obj)} {s : Shared} {σ : L2.St} {H : Hp} (I : Inv X pins σ H s) : ∀ {kvs : List (Key × V)} {vs : List (Key × Value)} {ds : List PyData} (k : Key), KV kvs vs → DpAll X.K H (kvs.map (·.2)) ds →
    (∀ e, look (kvs.map (·.1)) ds k = some e → ∃ u, valueAt vs k = some u ∧ ∃ as, Reads s.heap u e as) ∧ (look (kvs.map (·.1)) ds k = none → valueAt vs k = none)
  | [], vs, ds, k, r, hd => by
    cases r
    exact ⟨fun e q => by (cases q), fun _ => rfl⟩
  | (k', v) :: kvs, _, ds, k, .cons (b := (k2, u)) (l₂ := vs) hr r, hd => by
    obtain ⟨e1, e2⟩ := hr
    cases e1
    cases hd with
    | cons h1 h2 =>
      rename_i d0 ds0
      have ih := kv_look I k r h2
      by_cases c : k' = k
      · refine ⟨fun e q => ?_, fun q => ?_⟩
        · simp only [List.map_cons, look, if_pos c] at q
          cases q
          exact ⟨u, by simp [valueAt, c], reads_data I h1 e2⟩
        · simp only [List.map_cons, look, if_pos c] at q
          cases q
      · have a1 : look (((k', v) :: kvs).map (·.1)) (d0 :: ds0) k = look (kvs.map (·.1)) ds0 k := by simp [look, c]
        have a2 : valueAt ((k', u) :: vs) k = valueAt vs k := by simp [valueAt, c]
        rw [a2]
        exact ⟨fun e q => ih.1 e (a1 ▸ q), fun q => ih.2 (a1 ▸ q)⟩
theorem hits_of {pins : List (Addr × Obj)} {s : Shared} {σ : L2.St} {H : Hp} {A : Around} (hu : A.units + 64 < cLine) (I : Inv X pins σ H s) {kvs' : List (Key × V)} {vb : List (Key × Value)} {es : List PyData} (rb : KV kvs' vb) (db : DpAll X.K H (kvs'.map (·.2)) es) (sb : ∀ d ∈ es, SeqAt.shaped d = true) :
    ∀ {kvs : List (Key × V)} {va : List (Key × Value)} {ds : List PyData}, KV kvs va → DpAll X.K H (kvs.map (·.2)) ds → (∀ d ∈ ds, SeqAt.shaped d = true) →
      PySem.W.KeqHitsIn X.prog X.w A s vb va (dEq (kvs'.map (·.1)) es (kvs.map (·.1)) ds)
  | [], _, ds, r, hd, _ => by
    cases r
    exact .nil
  | (k, v) :: kvs, _, _, .cons (b := (k2, u)) (l₂ := va) hr r, hd, sd => by
    obtain ⟨e1, e2⟩ := hr
    cases e1
    cases hd with
    | cons h1 h2 =>
      rename_i d ds
      have kl := kv_look I k rb db
      show PySem.W.KeqHitsIn X.prog X.w A s vb ((k, u) :: va) (match look (kvs'.map (·.1)) es k with
        | some e => PyData.eqv d e && dEq (kvs'.map (·.1)) es (kvs.map (·.1)) ds
        | none => false)
      cases hl : look (kvs'.map (·.1)) es k with
      | none => exact .miss (kl.2 hl)
      | some e =>
        obtain ⟨y, hy, ry⟩ := kl.1 e hl
        have he : e ∈ es := by
          clear kl ry hy db rb
          revert hl
          generalize kvs'.map (·.1) = ks
          clear sb sd
          induction ks generalizing es with
          | nil => intro q; cases q
          | cons k0 ks ih =>
            intro q
            cases es with
            | nil => cases q
            | cons e0 es =>
              simp only [look] at q
              split at q
              · cases q; exact List.mem_cons_self
              · exact List.mem_cons_of_mem _ (ih q)
        exact .hit hy ((eq_two (reads_data I h1 e2) ry (sd d List.mem_cons_self) (sb e he) hu).inModel _ _) (hits_of hu I rb db sb r h2 fun d hd => sd d (List.mem_cons_of_mem _ hd))
theorem cmp_eqd (hu : X.A.units + 65 < cLine) : OpR X (compareOp .Eq) (fun x y H Q => ∃ F μ S p q r, Bears X.K cl F μ H S ∧ Vw X.K cl (Gz F μ S H) H p x ∧ Vw X.K cl (Gz F μ S H) H q y ∧ pyEq p q = some r ∧ Q (.bl r) H) := by
  intro pins s σ H x y v u Q I rx ry h
  obtain ⟨F, μ, S, p, q, r, B, vp, vq, hr, h⟩ := h
  have gen : ∀ d e, dataOf p = some d → dataOf q = some e → r = PyData.eqv d e → wpAny (model X.prog X.w) X.A (compareOp .Eq v u) (EP X pins σ Q) X.xe s := fun d e hd he hre => by
    obtain ⟨d1, d2⟩ := dataOf_some hd
    obtain ⟨e1, e2⟩ := dataOf_some he
    subst hre
    exact op_eqD (by omega) pins s σ H x y v u Q I rx ry ⟨d, e, dp_vw gz_gle vp d1, dp_vw gz_gle vq e1, d2, e2, h⟩
  have gen2 : (match dataOf p, dataOf q with
    | some d, some e => some (PyData.eqv d e)
    | _, _ => none) = some r → wpAny (model X.prog X.w) X.A (compareOp .Eq v u) (EP X pins σ Q) X.xe s := fun hq => by
    cases hd : dataOf p with
    | none => rw [hd] at hq; cases hq
    | some d =>
      cases he : dataOf q with
      | none => rw [hd, he] at hq; cases hq
      | some e =>
        rw [hd, he] at hq
        exact gen d e hd he (Option.some.inj hq).symm
  by_cases c : (∃ ks vs, p = .dk ks vs) ∧ ∃ ks vs, q = .dk ks vs
  · obtain ⟨⟨ks, vs, rfl⟩, ks', vs', rfl⟩ := c
    simp only [pyEq] at hr
    cases hd : datas vs with
    | none => rw [hd] at hr; cases hr
    | some ds =>
      cases he : datas vs' with
      | none => rw [hd, he] at hr; cases hr
      | some es =>
        rw [hd, he] at hr
        obtain ⟨d1, d2⟩ := datas_some hd
        obtain ⟨e1, e2⟩ := datas_some he
        obtain ⟨a, kvs, rfl, ha, ka, ra⟩ := vp
        obtain ⟨b, kvs', rfl, hb, kb, rb⟩ := vq
        subst ka; subst kb
        obtain rfl : v = Value.ref a := rx
        obtain rfl : u = Value.ref b := ry
        obtain ⟨_, ya, va, rva, da⟩ := dk_rd I.hok ha
        obtain ⟨_, yb, vb, rvb, db⟩ := dk_rd I.hok hb
        refine PySem.W.keq_eqIn (knd := mixKind X.prog X.w) ya yb da db (by omega) (fun _ => hits_of (by show X.A.units + 1 + 64 < cLine; omega) I rvb (dp_reps gz_gle _ _ _ rb e1) e2 rva (dp_reps gz_gle _ _ _ ra d1) d2) (fin_bl I h ?_)
        have l1 := Paired.length rva
        have l2 := Paired.length rvb
        rw [← Option.some.inj hr]
        simp [l1, l2]
  · refine gen2 ?_
    unfold pyEq at hr
    split at hr
    · exact absurd ⟨⟨_, _, rfl⟩, _, _, rfl⟩ c
    · exact hr
end
end PD
/-! More of the machine's operations on values that stand for data. -/
namespace PD
open PySem L2 PySem.Spec PyProof.Rows
section
variable {X : Cx} {cl : Nat → Addr} {W : XK}
theorem cmp_eq (hu : X.A.units + 65 < cLine) : OpR X (compareOp .Eq) (RO2 X cl W .eq) := by
  intro pins s σ H x y v u Q I rx ry h
  obtain ⟨F, μ, S, p, q, z, B, vp, vq, hz, h⟩ := h
  have hz' : (pyEq p q).map P.bl = some z := by
    have e : prim2 .eq p q = (pyEq p q).map P.bl := by cases p <;> cases q <;> rfl
    rw [← e]; exact hz
  obtain ⟨r, hr, rfl⟩ := Option.map_eq_some_iff.mp hz'
  exact cmp_eqd hu pins s σ H x y v u Q I rx ry ⟨F, μ, S, p, q, r, B, vp, vq, hr, give B h rfl⟩
theorem cmp_ne (hu : X.A.units + 65 < cLine) : OpR X (compareOp .NotEq) (RO2 X cl W .ne) := by
  intro pins s σ H x y v u Q I rx ry h
  obtain ⟨F, μ, S, p, q, z, B, vp, vq, hz, h⟩ := h
  have hz' : (pyEqD p q).map (fun r => P.bl (!r)) = some z := by
    have e : prim2 .ne p q = (pyEqD p q).map (fun r => P.bl (!r)) := by cases p <;> cases q <;> rfl
    rw [← e]; exact hz
  obtain ⟨r, hr, rfl⟩ := Option.map_eq_some_iff.mp hz'
  unfold pyEqD at hr
  cases hd : dataOf p with
  | none => rw [hd] at hr; cases hr
  | some d =>
    cases he : dataOf q with
    | none => rw [hd, he] at hr; cases hr
    | some e =>
      rw [hd, he] at hr
      cases hr
      obtain ⟨d1, d2⟩ := dataOf_some hd
      obtain ⟨e1, e2⟩ := dataOf_some he
      exact op_neD (by omega) pins s σ H x y v u Q I rx ry ⟨d, e, dp_vw gz_gle vp d1, dp_vw gz_gle vq e1, d2, e2, give B h rfl⟩

/-! ### membership -/
theorem canAll : ∀ {ds : List PyData}, (∀ d ∈ ds, SeqAt.shaped d = true) → PyData.canLayAll0 ds = true
  | [], _ => by simp [PyData.canLayAll0]
  | d :: ds, h => by simp only [PyData.canLayAll0, Bool.and_eq_true]; exact ⟨SeqAt.canLay_of_shaped (h d List.mem_cons_self), canAll fun e he => h e (List.mem_cons_of_mem _ he)⟩
theorem inList_some {x : P} {l : List P} {r : Bool} (h : inList x l = some r) : ∃ d ds, toPD x = some d ∧ SeqAt.shaped d = true ∧ toPDs l = some ds ∧ PyData.canLayAll0 ds = true ∧ r = ds.any fun e => PyData.eqv e d := by
  unfold inList at h
  cases hd : dataOf x with
  | none => rw [hd] at h; cases h
  | some d =>
    cases he : datas l with
    | none => rw [hd, he] at h; cases h
    | some ds =>
      rw [hd, he] at h
      obtain ⟨d1, d2⟩ := dataOf_some hd
      obtain ⟨e1, e2⟩ := datas_some he
      exact ⟨d, ds, d1, d2, e1, canAll e2, (Option.some.inj h).symm⟩
/-- a list or a tuple, and what is asked in it -/
def seqOf : P → Option (Bool × List P)
  | .lst l => some (true, l)
  | .fls l => some (true, l)
  | .tup l => some (false, l)
  | .ktup l => some (false, l)
  | _ => none
theorem mem_seq (hu : X.A.units + 66 < cLine) {pins : List (Addr × Obj)} {s : Shared} {σ : L2.St} {H : Hp} {x y : V} {v u : Value} {Q : VK} (I : Inv X pins σ H s) (rx : RelV x v) (ry : RelV y u) {G : Hp} (g : Gle G H)
    {p q : P} {b : Bool} {l : List P} {r : Bool} (vp : Vw X.K cl G H p x) (vq : Vw X.K cl G H q y) (hq : seqOf q = some (b, l)) (hr : inList p l = some r) :
    (Q (.bl r) H → wpAny (model X.prog X.w) X.A (compareOp .In v u) (EP X pins σ Q) X.xe s) ∧ (Q (.bl (!r)) H → wpAny (model X.prog X.w) X.A (compareOp .NotIn v u) (EP X pins σ Q) X.xe s) := by
  obtain ⟨d, ds, d1, d2, e1, e2, rfl⟩ := inList_some hr
  obtain ⟨as, r1⟩ := reads_data I (dp_vw g vp d1) rx
  have hc := SeqAt.canLay_of_shaped d2
  have hdp := SeqAt.depth_of_shaped d2
  have hm : ∀ n, min n d.depth ≤ 64 := fun n => Nat.le_trans (Nat.min_le_right _ _) hdp
  have hu' : X.A.units + 1 + min (PyData.depthAll ds) d.depth < cLine := by have := hm (PyData.depthAll ds); omega
  let goal : Prop := (Q (.bl (ds.any fun e => PyData.eqv e d)) H → wpAny (model X.prog X.w) X.A (compareOp .In v u) (EP X pins σ Q) X.xe s) ∧ (Q (.bl (!ds.any fun e => PyData.eqv e d)) H → wpAny (model X.prog X.w) X.A (compareOp .NotIn v u) (EP X pins σ Q) X.xe s)
  show goal
  have lst : toPD q = some (.list ds) → goal := fun e => by
    obtain ⟨bs, r2⟩ := reads_data I (dp_vw g vq e) ry
    exact ⟨fun h => SeqAt.in_list_reads r2 r1 e2 hc hu' ⟨.bl _, H, I, rfl, h⟩, fun h => SeqAt.notIn_list_reads r2 r1 e2 hc hu' ⟨.bl _, H, I, rfl, h⟩⟩
  have tup : toPD q = some (.tuple ds) → goal := fun e => by
    obtain ⟨bs, r2⟩ := reads_data I (dp_vw g vq e) ry
    exact ⟨fun h => SeqAt.in_tuple_reads r2 r1 e2 hc hu' ⟨.bl _, H, I, rfl, h⟩, fun h => SeqAt.notIn_tuple_reads r2 r1 e2 hc hu' ⟨.bl _, H, I, rfl, h⟩⟩
  cases q <;> cases hq
  · exact tup (by simp only [toPD, e1]; rfl)
  · exact lst (by simp only [toPD, e1]; rfl)
  · exact tup (by simp only [toPD, e1]; rfl)
  · exact lst (by simp only [toPD, e1]; rfl)
theorem cmp_mem (hu : X.A.units + 66 < cLine) : OpR X (compareOp .In) (RO2 X cl W .mem) := by
  intro pins s σ H x y v u Q I rx ry h
  obtain ⟨F, μ, S, p, q, z, B, vp, vq, hz, h⟩ := h
  have seq : ∀ b l, seqOf q = some (b, l) → prim2 .mem p q = (inList p l).map P.bl → wpAny (model X.prog X.w) X.A (compareOp .In v u) (EP X pins σ Q) X.xe s := fun b l hq e => by
    rw [e] at hz
    obtain ⟨r, hr, rfl⟩ := Option.map_eq_some_iff.mp hz
    exact (mem_seq hu I rx ry gz_gle vp vq hq hr).1 (give B h rfl)
  cases q with
  | non => cases p <;> cases hz
  | bl _ => cases p <;> cases hz
  | int _ => cases p <;> cases hz
  | str _ => cases p <;> cases hz
  | ins _ _ _ => cases p <;> cases hz
  | exc _ _ _ => cases p <;> cases hz
  | dt _ _ => cases p <;> cases hz
  | tup l => exact seq _ l rfl (by cases p <;> rfl)
  | lst l => exact seq _ l rfl (by cases p <;> rfl)
  | ktup l => exact seq _ l rfl (by cases p <;> rfl)
  | fls l => exact seq _ l rfl (by cases p <;> rfl)
  | dk ks vs =>
    have e : prim2 .mem p (.dk ks vs) = (keyOf p).map fun k => P.bl (hasK ks k) := by cases p <;> rfl
    rw [e] at hz
    obtain ⟨k, hk, rfl⟩ := Option.map_eq_some_iff.mp hz
    obtain ⟨b, kvs, rfl, hb, ek, rb⟩ := vq
    obtain rfl : u = Value.ref b := ry
    have hx := key_of hk vp
    subst hx
    refine d_in (by omega) I (.inl ⟨kvs, k, hb, rfl, rfl⟩) rx fun s' I' => ⟨.bl _, H, I', rfl, ?_⟩
    rw [valV_some_in, ek]
    exact give B h rfl
theorem cmp_nmem (hu : X.A.units + 66 < cLine) : OpR X (compareOp .NotIn) (RO2 X cl W .nmem) := by
  intro pins s σ H x y v u Q I rx ry h
  obtain ⟨F, μ, S, p, q, z, B, vp, vq, hz, h⟩ := h
  have seq : ∀ b l, seqOf q = some (b, l) → prim2 .nmem p q = (inList p l).map (fun r => P.bl (!r)) → wpAny (model X.prog X.w) X.A (compareOp .NotIn v u) (EP X pins σ Q) X.xe s := fun b l hq e => by
    rw [e] at hz
    obtain ⟨r, hr, rfl⟩ := Option.map_eq_some_iff.mp hz
    exact (mem_seq hu I rx ry gz_gle vp vq hq hr).2 (give B h rfl)
  cases q with
  | non => cases p <;> cases hz
  | bl _ => cases p <;> cases hz
  | int _ => cases p <;> cases hz
  | str _ => cases p <;> cases hz
  | ins _ _ _ => cases p <;> cases hz
  | exc _ _ _ => cases p <;> cases hz
  | dt _ _ => cases p <;> cases hz
  | tup l => exact seq _ l rfl (by cases p <;> rfl)
  | lst l => exact seq _ l rfl (by cases p <;> rfl)
  | ktup l => exact seq _ l rfl (by cases p <;> rfl)
  | fls l => exact seq _ l rfl (by cases p <;> rfl)
  | dk ks vs =>
    have e : prim2 .nmem p (.dk ks vs) = (keyOf p).map fun k => P.bl (!hasK ks k) := by cases p <;> rfl
    rw [e] at hz
    obtain ⟨k, hk, rfl⟩ := Option.map_eq_some_iff.mp hz
    obtain ⟨b, kvs, rfl, hb, ek, rb⟩ := vq
    obtain rfl : u = Value.ref b := ry
    have hx := key_of hk vp
    subst hx
    refine d_notIn (by omega) I (.inl ⟨kvs, k, hb, rfl, rfl⟩) rx fun s' I' => ⟨.bl _, H, I', rfl, ?_⟩
    rw [valV_some_in, ek]
    exact give B h rfl
def cmpOf : CmpOp → Option Op2
  | .Eq => some .eq | .NotEq => some .ne | .Lt => some .lt | .LtE => some .le | .Gt => some .gt | .GtE => some .ge | .In => some .mem | .NotIn => some .nmem | _ => none
theorem cmp_ok (hu : X.A.units + 66 < cLine) {op : CmpOp} {o : Op2} (h : cmpOf op = some o) : OpR X (compareOp op) (RO2 X cl W o) := by
  cases op <;> cases h
  · exact cmp_eq (by omega)
  · exact cmp_ne (by omega)
  · exact cmp_lt
  · exact cmp_le
  · exact cmp_gt
  · exact cmp_ge
  · exact cmp_mem hu
  · exact cmp_nmem hu

/-! ### subscripts -/
theorem ix_ok (hu : X.A.units + 66 < cLine) : IxR X (RO2 X cl W .ix) := by
  intro value slice pins s σ H x y v u Q I rx ry h hs
  obtain ⟨F, μ, S, p, q, z, B, vp, vq, hz, h⟩ := h
  have hsq : ∀ l i, q = .int i → atI l i = some z → (∃ a xs, x = .ref a ∧ (SqL X.K H a xs ∨ SqT X.K H a xs) ∧ RepL X.K cl (Gz F μ S H) l xs) → wpAny (model X.prog X.w) X.A (subscriptTail value slice v u) (EP X pins σ Q) X.xe s := fun l i hq hi hx => by
    obtain ⟨a, xs, rfl, hx, r⟩ := hx
    subst hq
    obtain ⟨w', hw, rw'⟩ := atI_rep r hi
    rcases hx with hx | hx
    · exact ix_list value slice pins s σ H _ y v u Q I rx ry ⟨a, xs, i, w', rfl, vq, hx, hw, give B h rw'⟩ hs
    · exact ix_tup value slice pins s σ H _ y v u Q I rx ry ⟨a, xs, i, w', rfl, vq, hx, hw, give B h rw'⟩ hs
  cases p with
  | non => cases q <;> cases hz
  | bl _ => cases q <;> cases hz
  | int _ => cases q <;> cases hz
  | ins _ _ _ => cases q <;> cases hz
  | exc _ _ _ => cases q <;> cases hz
  | str w' =>
    cases q <;> first | (cases hz; done) | skip
    simp only [prim2] at hz
    split at hz
    · obtain ⟨c, hc, rfl⟩ := Option.map_eq_some_iff.mp hz
      exact ix_str value slice pins s σ H x y v u Q I rx ry ⟨_, _, c, vp, vq, by assumption, hc, give B h rfl⟩ hs
    · cases hz
  | tup l =>
    cases q <;> first | (cases hz; done) | skip
    obtain ⟨a, xs, rfl, ha, r⟩ := vp
    exact hsq l _ rfl hz ⟨a, xs, rfl, .inr (.inl (.inl (gz_gle.ex a (.tup xs) trivial ha))), r⟩
  | lst l =>
    cases q <;> first | (cases hz; done) | skip
    obtain ⟨a, xs, rfl, ha, r⟩ := vp
    exact hsq l _ rfl hz ⟨a, xs, rfl, .inl (.inl (.inl ha)), r⟩
  | ktup l =>
    cases q <;> first | (cases hz; done) | skip
    obtain ⟨a, xs, rfl, ha, r⟩ := vp
    exact hsq l _ rfl hz ⟨a, xs, rfl, .inr (gz_gle.sqT ha), r⟩
  | fls l =>
    cases q <;> first | (cases hz; done) | skip
    obtain ⟨a, xs, rfl, ha, r⟩ := vp
    exact hsq l _ rfl hz ⟨a, xs, rfl, .inl (gz_gle.sqL ha), r⟩
  | dk ks vs =>
    have e : prim2 .ix (.dk ks vs) q = (keyOf q).bind (look ks vs) := by cases q <;> rfl
    rw [e] at hz
    obtain ⟨k, hk, hl⟩ := Option.bind_eq_some_iff.mp hz
    obtain ⟨b, kvs, rfl, hb, ek, rb⟩ := vp
    obtain rfl : v = Value.ref b := rx
    have hx := key_of hk vq
    subst hx
    obtain ⟨w', hw, rw'⟩ := (look_val ek rb).1 z hl
    have g : DGet H b (kV k) (some w') := .inl ⟨kvs, k, hb, rfl, hw.symm⟩
    exact tail_any (dict_typeIs I g) PySem.F.slot_dict_getitem.lookup (d_getItem (by omega) I g ry fun w2 s2 I2 r2 => ⟨w', H, I2, r2, give B h rw'⟩) hs
  | dt ks vs =>
    have e : prim2 .ix (.dt ks vs) q = (tkeyOf q).bind (look ks vs) := by cases q <;> rfl
    rw [e] at hz
    obtain ⟨k, hk, hl⟩ := Option.bind_eq_some_iff.mp hz
    obtain ⟨b, kvs, rfl, hb, ek, rb⟩ := vp
    obtain rfl : v = Value.ref b := rx
    cases q <;> first | (cases hk; done) | skip
    obtain ⟨c, ys, rfl, hc, rc⟩ := vq
    have ec := keys_of hk rc
    subst ec
    obtain ⟨w', hw, rw'⟩ := (look_val ek rb).1 z hl
    have g : DGet H b (.ref c) (some w') := .inr ⟨kvs, k, c, hb, rfl, gz_gle.ex c (.tup _) trivial hc, hw.symm⟩
    exact tail_any (dict_typeIs I g) PySem.F.slot_dict_getitem.lookup (d_getItem (by omega) I g ry fun w2 s2 I2 r2 => ⟨w', H, I2, r2, give B h rw'⟩) hs
end
end PD
/-! Calls of built-ins, slices, isinstance, methods on values that stand for data. -/
namespace PD
open PySem L2 PySem.Spec PyProof.Rows
section
variable {X : Cx} {cl : Nat → Addr} {W : XK}
/-- a call of a built-in with one value -/
abbrev RC1 (X : Cx) (cl : Nat → Addr) (W : XK) (o : Op1) : List V → Hp → VK → Prop := fun xs H Q => ∃ x, xs = [x] ∧ RO1 X cl W o x H Q
theorem call_len_ok : CallR X (.builtin "len") (RC1 X cl W .len) := by
  intro pins s σ H xs us Q I r h
  obtain ⟨x, rfl, F, μ, S, p, z, B, vp, hz, h⟩ := h
  cases p with
  | non => cases hz
  | bl _ => cases hz
  | int _ => cases hz
  | ins _ _ _ => cases hz
  | exc _ _ _ => cases hz
  | dt _ _ => cases hz
  | str w =>
    simp only [prim1] at hz
    split at hz
    · cases hz
      exact call_len pins s σ H _ us Q I r ⟨x, w.length, rfl, by rw [vw_str vp]; exact ⟨by assumption, rfl⟩, give B h rfl⟩
    · cases hz
  | lst l =>
    cases hz
    obtain ⟨a, ys, rfl, ha, ra⟩ := vp
    exact call_len pins s σ H _ us Q I r ⟨_, ys.length, rfl, .inl ⟨ys, .inl (.inl ha), rfl⟩, by rw [← ra.len]; exact give B h rfl⟩
  | fls l =>
    cases hz
    obtain ⟨a, ys, rfl, ha, ra⟩ := vp
    exact call_len pins s σ H _ us Q I r ⟨_, ys.length, rfl, .inl ⟨ys, gz_gle.sqL ha, rfl⟩, by rw [← ra.len]; exact give B h rfl⟩
  | tup l =>
    cases hz
    obtain ⟨a, ys, rfl, ha, ra⟩ := vp
    exact call_len pins s σ H _ us Q I r ⟨_, ys.length, rfl, .inr ⟨ys, .inl (.inl (gz_gle.ex a (.tup ys) trivial ha)), rfl⟩, by rw [← ra.len]; exact give B h rfl⟩
  | ktup l =>
    cases hz
    obtain ⟨a, ys, rfl, ha, ra⟩ := vp
    exact call_len pins s σ H _ us Q I r ⟨_, ys.length, rfl, .inr ⟨ys, gz_gle.sqT ha, rfl⟩, by rw [← ra.len]; exact give B h rfl⟩
  | dk ks vs =>
    cases hz
    obtain ⟨a, kvs, rfl, ha, hk, ra⟩ := vp
    obtain ⟨u, rfl, ru⟩ := vals1 r
    obtain rfl : u = Value.ref a := ru
    refine d_len I ha fun t s' I' => ⟨.int kvs.length, H, I', ⟨t, rfl⟩, ?_⟩
    have e : kvs.length = ks.length := by rw [← hk, List.length_map]
    rw [e]
    exact give B h rfl
theorem call_abs_ok : CallR X (.builtin "abs") (RC1 X cl W .abs) := by
  intro pins s σ H xs us Q I r h
  obtain ⟨x, rfl, F, μ, S, p, z, B, vp, hz, h⟩ := h
  cases p <;> first | (cases hz; done) | skip
  cases hz
  exact call_abs pins s σ H _ us Q I r ⟨_, by rw [vw_int vp], give B h rfl⟩
theorem call_int_ok : CallR X (.type "int") (RC1 X cl W .int) := by
  intro pins s σ H xs us Q I r h
  obtain ⟨x, rfl, F, μ, S, p, z, B, vp, hz, h⟩ := h
  cases p <;> first | (cases hz; done) | skip
  · cases hz
    exact call_int1 pins s σ H _ us Q I r (.inr ⟨_, by rw [vw_bl vp], give B h rfl⟩)
  · cases hz
    exact call_int1 pins s σ H _ us Q I r (.inl ⟨_, by rw [vw_int vp], give B h rfl⟩)
theorem call_str_ok : CallR X (.type "str") (RC1 X cl W .str) := by
  intro pins s σ H xs us Q I r h
  obtain ⟨x, rfl, F, μ, S, p, z, B, vp, hz, h⟩ := h
  cases p <;> first | (cases hz; done) | skip
  simp only [prim1] at hz
  split at hz
  · cases hz
    exact call_str_int pins s σ H _ us Q I r ⟨_, by rw [vw_int vp], by assumption, give B h rfl⟩
  · cases hz
theorem call_list_ok : CallR X (.type "list") (RC1 X cl W .list) := by
  intro pins s σ H xs us Q I r h
  obtain ⟨x, rfl, F, μ, S, p, z, B, vp, hz, h⟩ := h
  cases p <;> first | (cases hz; done) | skip
  · cases hz
    obtain ⟨a, ys, rfl, ha, ra⟩ := vp
    exact call_list_of pins s σ H _ us Q I r ⟨a, ys, rfl, .inr (.inl (.inl (gz_gle.ex a (.tup ys) trivial ha))), give_lst B h ra⟩
  · cases hz
    obtain ⟨a, ys, rfl, ha, ra⟩ := vp
    exact call_list_of pins s σ H _ us Q I r ⟨a, ys, rfl, .inl (.inl (.inl ha)), give_lst B h ra⟩
  · cases hz
    obtain ⟨a, ys, rfl, ha, ra⟩ := vp
    exact call_list_of pins s σ H _ us Q I r ⟨a, ys, rfl, .inr (gz_gle.sqT ha), give_lst B h ra⟩
  · cases hz
    obtain ⟨a, ys, rfl, ha, ra⟩ := vp
    exact call_list_of pins s σ H _ us Q I r ⟨a, ys, rfl, .inl (gz_gle.sqL ha), give_lst B h ra⟩
theorem call_tuple_ok : CallR X (.type "tuple") (RC1 X cl W .tuple) := by
  intro pins s σ H xs us Q I r h
  obtain ⟨x, rfl, F, μ, S, p, z, B, vp, hz, h⟩ := h
  cases p <;> first | (cases hz; done) | skip
  · cases hz
    obtain ⟨a, ys, rfl, ha, ra⟩ := vp
    exact call_tuple_of pins s σ H _ us Q I r ⟨a, ys, rfl, .inr ⟨.inl (.inl (gz_gle.ex a (.tup ys) trivial ha)), give B h ⟨a, ys, rfl, ha, ra⟩⟩⟩
  · cases hz
    obtain ⟨a, ys, rfl, ha, ra⟩ := vp
    exact call_tuple_of pins s σ H _ us Q I r ⟨a, ys, rfl, .inl ⟨.inl (.inl ha), give_tup B h ra⟩⟩
  · cases hz
    obtain ⟨a, ys, rfl, ha, ra⟩ := vp
    exact call_tuple_of pins s σ H _ us Q I r ⟨a, ys, rfl, .inl ⟨gz_gle.sqL ha, give_tup B h ra⟩⟩
/-! ### sorted -/
theorem ints_of {K : PySem.W.Frag} {G : Hp} : ∀ {l : List P} {ns : List Int} {xs : List V}, intsOf l = some ns → RepL K cl G l xs → xs = ns.map V.int
  | [], ns, xs, h, r => by cases h; exact r
  | p :: l, ns, xs, h, ⟨v, t, e, r1, r2⟩ => by
    cases p <;> first | (cases h; done) | skip
    simp only [intsOf] at h
    obtain ⟨ms, h1, h2⟩ := Option.map_eq_some_iff.mp h
    subst h2
    rw [e, ints_of h1 r2, show v = _ from r1]
    rfl
theorem ikeys_of : ∀ {ks : List Key} {ns : List Int}, ikeys ks = some ns → ks = ns.map Sum.inl
  | [], ns, h => by cases h; rfl
  | .inl i :: ks, ns, h => by
    simp only [ikeys] at h
    obtain ⟨ms, h1, h2⟩ := Option.map_eq_some_iff.mp h
    subst h2
    rw [ikeys_of h1]
    rfl
  | .inr _ :: _, _, h => by cases h
theorem sort_uniq : ∀ {l m : List Int}, l.Perm m → l.Pairwise (· ≤ ·) → m.Pairwise (· ≤ ·) → l = m := fun {l m} p h1 h2 =>
  List.Perm.eq_of_pairwise (fun a b _ _ h1 h2 => Int.le_antisymm h1 h2) h1 h2 p
theorem merge_sorted (ns : List Int) : (ns.mergeSort (fun a b => decide (a ≤ b))).Pairwise (· ≤ ·) := by
  have h := List.pairwise_mergeSort (le := fun a b : Int => decide (a ≤ b)) (fun a b c h1 h2 => by simp at *; omega) (fun a b => by simp; omega) ns
  exact h.imp fun h => by simpa using h
theorem call_sorted_ok (hc : X.calm = true) : CallR X (.builtin "sorted") (RC1 X cl W .sortedI) := by
  intro pins s σ H xs us Q I r h
  obtain ⟨x, rfl, F, μ, S, p, z, B, vp, hz, h⟩ := h
  have one : ∀ (ns : List Int), z = .lst ((ns.mergeSort (fun a b => decide (a ≤ b))).map .int) → ∀ (ms : List Int) (q : Addr), ms.Perm ns → ms.Pairwise (· ≤ ·) → H q = none → Q (.ref q) (upd H q (.lst (ms.map V.int))) := fun ns e ms q hp hs hq => by
    subst e
    have e2 : ms = ns.mergeSort (fun a b => decide (a ≤ b)) := sort_uniq (hp.trans (List.mergeSort_perm ns _).symm) hs (merge_sorted ns)
    rw [e2]
    exact give_lst B h (repL_ints _) q hq
  cases p <;> first | (cases hz; done) | skip
  · rename_i l
    simp only [prim1] at hz
    cases hi : intsOf l with
    | none => rw [hi] at hz; cases hz
    | some ns =>
      rw [hi] at hz
      simp only at hz
      split at hz
      · cases hz
        obtain ⟨a, ys, rfl, ha, ra⟩ := vp
        rw [ints_of hi ra] at ha
        exact cr_sorted pins s σ H _ us Q I r ⟨a, ns, rfl, .inl (.inl ha), by assumption, fun ms q hp hs hq => one ns rfl ms q hp hs hq⟩
      · cases hz
  · rename_i ks vs
    simp only [prim1] at hz
    cases hi : ikeys ks with
    | none => rw [hi] at hz; cases hz
    | some ns =>
      rw [hi] at hz
      simp only at hz
      split at hz
      · cases hz
        obtain ⟨a, kvs, rfl, ha, hk, ra⟩ := vp
        exact call_sortedDI hc pins s σ H _ us Q I r ⟨a, kvs, ns, rfl, ha, by rw [hk]; exact ikeys_of hi, by assumption, fun ms q hp hs hq => one ns rfl ms q hp hs hq⟩
      · cases hz

/-! ### is None -/
theorem vw_isN {K : PySem.W.Frag} {G H : Hp} {p : P} {v : V} (h : Vw K cl G H p v) : prim1 .isN p = some (.bl (decide (v = .non))) ∧ prim1 .notN p = some (.bl (!decide (v = .non))) := by
  cases p with
  | non => cases h; exact ⟨rfl, rfl⟩
  | bl _ => cases h; exact ⟨rfl, rfl⟩
  | int _ => cases h; exact ⟨rfl, rfl⟩
  | str _ => cases h; exact ⟨rfl, rfl⟩
  | tup _ => obtain ⟨a, xs, rfl, _⟩ := h; exact ⟨rfl, rfl⟩
  | lst _ => obtain ⟨a, xs, rfl, _⟩ := h; exact ⟨rfl, rfl⟩
  | ktup _ => obtain ⟨a, xs, rfl, _⟩ := h; exact ⟨rfl, rfl⟩
  | fls _ => obtain ⟨a, xs, rfl, _⟩ := h; exact ⟨rfl, rfl⟩
  | dk _ _ => obtain ⟨a, xs, rfl, _⟩ := h; exact ⟨rfl, rfl⟩
  | dt _ _ => obtain ⟨a, xs, rfl, _⟩ := h; exact ⟨rfl, rfl⟩
  | ins _ _ _ => obtain ⟨a, dx, xs, rfl, _⟩ := h; exact ⟨rfl, rfl⟩
  | exc _ _ _ => obtain ⟨a, xs, rfl, _⟩ := h; exact ⟨rfl, rfl⟩

/-! ### slices -/
def RSl (X : Cx) (cl : Nat → Addr) (W : XK) : V → Option Int → Option Int → Hp → VK → Prop := fun x lo hi H Q => ∃ F μ S p z, Bears X.K cl F μ H S ∧ Vw X.K cl (Gz F μ S H) H p x ∧ sliceP p lo hi = some z ∧ Sat X.K cl F μ S H (RD X.K cl) (.ok (.p z) S) W Q
theorem slice_ok : SlR X (RSl X cl W) := by
  intro pins s σ H x v vl vu lo hi sl Q I rx hs pl pu h
  obtain ⟨F, μ, S, p, z, B, vp, hz, h⟩ := h
  cases p <;> first | (cases hz; done) | skip
  · cases hz
    obtain ⟨a, ys, rfl, ha, ra⟩ := vp
    have ea := gz_gle.ex a (.tup ys) trivial ha
    refine sl_tupA pins s σ H _ v vl vu lo hi sl Q I rx hs pl pu ⟨a, ys, rfl, .inl (.inl ea), fun hw => ?_, fun _ => give_tup B h (cut_rep ra)⟩
    refine give B h ⟨a, ys, rfl, ha, ?_⟩
    rename_i l
    have e2 : cutP l lo hi = l := by
      unfold cutP
      rw [ra.len, hw.1, hw.2, List.drop_zero, Nat.sub_zero]
      exact List.take_of_length_le (by rw [ra.len]; exact Nat.le_refl _)
    rw [e2]
    exact ra
  · cases hz
    obtain ⟨a, ys, rfl, ha, ra⟩ := vp
    exact sl_list pins s σ H _ v vl vu lo hi sl Q I rx hs pl pu ⟨a, ys, rfl, .inl (.inl ha), give_lst B h (cut_rep ra)⟩
  · cases hz
    obtain ⟨a, ys, rfl, ha, ra⟩ := vp
    exact sl_list pins s σ H _ v vl vu lo hi sl Q I rx hs pl pu ⟨a, ys, rfl, gz_gle.sqL ha, give_lst B h (cut_rep ra)⟩
/-! ### truth -/
theorem repL_emp {K : PySem.W.Frag} {G : Hp} {l : List P} {xs : List V} (r : RepL K cl G l xs) : (!l.isEmpty) = !xs.isEmpty := by
  cases l with
  | nil => rw [show xs = [] from r]; rfl
  | cons p l => obtain ⟨v, t, e, _⟩ := r; rw [e]; rfl
theorem truth_ok {K : PySem.W.Frag} {G H : Hp} (g : Gle G H) {p : P} {v : V} {b : Bool} (h : Vw K cl G H p v) (e : truth p = some b) : TruV K v H b := by
  cases p <;> first | (cases e; done) | skip
  · cases h; cases e; exact rfl
  · cases h; cases e; exact rfl
  · cases h; cases e; exact rfl
  · simp only [truth] at e
    split at e
    · cases e; cases h; exact ⟨by assumption, rfl⟩
    · cases e
  · obtain ⟨a, xs, rfl, ha, r⟩ := h
    cases e
    refine .inr (.inl ⟨xs, .inl (.inl (g.ex a (.tup xs) trivial ha)), ?_⟩)
    exact repL_emp r
  · obtain ⟨a, xs, rfl, ha, r⟩ := h
    cases e
    refine .inl ⟨xs, .inl (.inl ha), ?_⟩
    exact repL_emp r
  · obtain ⟨a, xs, rfl, ha, r⟩ := h
    cases e
    refine .inr (.inl ⟨xs, g.sqT ha, ?_⟩)
    exact repL_emp r
  · obtain ⟨a, xs, rfl, ha, r⟩ := h
    cases e
    refine .inl ⟨xs, g.sqL ha, ?_⟩
    exact repL_emp r
end
end PD
/-! Expressions: each construct's rule, by what the parts do. -/
namespace PD
open PySem L2 PySem.Spec PyProof.Rows
theorem _root_.L2.PE.imp {X : Cx} {e : Expr} {t t' : TE} (h : PE X e t) (q : ∀ σ H Q, t' σ H Q → t σ H Q) : PE X e t' := ⟨fun pins s σ H Q I w => h.run pins s σ H Q I (q σ H Q w)⟩
theorem _root_.L2.PT.imp {X : Cx} {e : Expr} {t t' : TT} (h : PT X e t) (q : ∀ σ H Q, t' σ H Q → t σ H Q) : PT X e t' := ⟨fun pins s σ H Q I w => h.run pins s σ H Q I (q σ H Q w)⟩
theorem _root_.L2.PW.imp {X : Cx} {e : Expr} {t t' : TT} (h : PW X e t) (q : ∀ σ H Q, t' σ H Q → t σ H Q) : PW X e t' := ⟨fun wh pins s σ H Q I w => h.run wh pins s σ H Q I (q σ H Q w)⟩
theorem _root_.L2.PA.imp {X : Cx} {es : List Expr} {t t' : TA} (h : PA X es t) (q : ∀ σ H Q, t' σ H Q → t σ H Q) : PA X es t' := ⟨fun pos pins s σ H Q I w => h.run pos pins s σ H Q I (q σ H Q w)⟩
theorem _root_.L2.PS.imp {X : Cx} {st : Stmt} {t t' : TS} (h : PS X st t) (q : ∀ D σ H, t' D σ H → t D σ H) : PS X st t' := ⟨fun pins s σ H D I w => h.run pins s σ H D I (q D σ H w)⟩
theorem _root_.L2.PSs.imp {X : Cx} {st : List Stmt} {t t' : TS} (h : PSs X st t) (q : ∀ D σ H, t' D σ H → t D σ H) : PSs X st t' := ⟨fun pins s σ H D I w => h.run pins s σ H D I (q D σ H w)⟩
/-- a choice of two rules -/
theorem _root_.L2.PE.or {X : Cx} {e : Expr} {t t' : TE} (h : PE X e t) (h' : PE X e t') : PE X e (fun σ H Q => t σ H Q ∨ t' σ H Q) := ⟨fun pins s σ H Q I w => w.elim (h.run pins s σ H Q I) (h'.run pins s σ H Q I)⟩
theorem _root_.L2.PS.or {X : Cx} {st : Stmt} {t t' : TS} (h : PS X st t) (h' : PS X st t') : PS X st (fun D σ H => t D σ H ∨ t' D σ H) := ⟨fun pins s σ H D I w => w.elim (h.run pins s σ H D I) (h'.run pins s σ H D I)⟩

/-! ### syntax -/
def noStar : Expr → Bool
  | .Starred _ _ => false
  | _ => true
theorem star_cons {e : Expr} {es : List Expr} {env : Env} (h : noStar e = true) : starEach (e :: es) env = (false, eval e env) :: starEach es env := by
  cases e <;> first | rfl | cases h
theorem star_none {env : Env} {pos : Pos} : ∀ {es : List Expr}, es.all noStar = true → (backTo pos (starEach es env)).any (·.1) = false
  | [], _ => rfl
  | e :: es, h => by
    rw [List.all_cons, Bool.and_eq_true] at h
    rw [star_cons h.1]
    show (false || (backTo pos (starEach es env)).any (·.1)) = false
    rw [star_none h.2]
    rfl
theorem star_all {env : Env} {pos : Pos} : ∀ {es : List Expr}, es.all noStar = true → (backTo pos (starEach es env)).all (fun x => !x.1) = true
  | [], _ => rfl
  | e :: es, h => by
    rw [List.all_cons, Bool.and_eq_true] at h
    rw [star_cons h.1]
    show (true && (backTo pos (starEach es env)).all (fun x => !x.1)) = true
    rw [star_all h.2]
    rfl
def noComp : Expr → Bool
  | .ListComp _ _ _ _ => false
  | .SetComp _ _ _ _ => false
  | .DictComp _ _ _ _ _ => false
  | _ => true
theorem swaps_no {e : Expr} {t : Option Expr} {l : Nat} {env : Env} (h : noComp e = true) : swapsWith e t l env = pure false := by
  cases e <;> first | rfl | cases h
def plainBase : Expr → Bool
  | .Call (.Name _ _) [] [] _ => false
  | _ => true
theorem base_plain {o : Expr} {a : Str} {env : Env} {wh : Sem Value} (h : plainBase o = true) : attributeBase o a env wh = wh := by
  unfold attributeBase
  split
  · rename_i id p0 pos
    cases h
  · rfl
def plainTest : Expr → Bool
  | .UnaryOp .Not _ _ => false
  | .BoolOp _ _ _ => false
  | .IfExp _ _ _ _ => false
  | .Compare _ _ _ _ => false
  | _ => true
theorem test_plain {e : Expr} {env : Env} (h : plainTest e = true) (wh : Sem Value) : isTrue e env wh = (do let v ← wh; standAt e.pos; holding [v] (truthy v)) := by
  cases e <;> first | rfl | (cases h; done) | skip
  rename_i op _ _
  cases op <;> first | rfl | cases h
def noSlice : Expr → Bool
  | .Slice _ _ _ _ => false
  | _ => true
theorem plain_ix {b : Expr} (h : noSlice b = true) : PlainIx b := fun o i => by
  cases b <;> first | rfl | cases h
theorem no_sl {b : Expr} (h : noSlice b = true) : NoSl b := fun o i => by
  cases b <;> first | rfl | cases h

section
variable {X : Cx} {cl : Nat → Addr} {W : WX}
abbrev WS (W : WX) (σ : L2.St) : XK := fun c d H => W c d σ H
/-- the readings: of an expression, a test, an argument list, by what they do -/
def tE (X : Cx) (cl : Nat → Addr) (W : WX) (f : List (Option D) → Sto → Res D) : TE := fun σ H Q => ∃ ρ S μ F, Bears X.K cl F μ H S ∧ RepS X.K cl μ (Gz F μ S H) σ ρ ∧ Sat X.K cl F μ S H (RD X.K cl) (f ρ S) (WS W σ) Q
def tT (X : Cx) (cl : Nat → Addr) (W : WX) (f : List (Option D) → Sto → Res Bool) : TT := fun σ H Q => ∃ ρ S μ F, Bears X.K cl F μ H S ∧ RepS X.K cl μ (Gz F μ S H) σ ρ ∧ Sat X.K cl F μ S H RB (f ρ S) (WS W σ) Q
def tA (X : Cx) (cl : Nat → Addr) (W : WX) (f : List (Option D) → Sto → Res (List D)) : TA := fun σ H Q => ∃ ρ S μ F, Bears X.K cl F μ H S ∧ RepS X.K cl μ (Gz F μ S H) σ ρ ∧ Sat X.K cl F μ S H (RDL X.K cl) (f ρ S) (WS W σ) Q
section
variable {F μ : List Addr} {S : Sto} {H : Hp} {σ : L2.St} {ρ : List (Option D)} {α β : Type} {R : List Addr → Hp → α → β → Prop} {Qf : β → Hp → Prop}
/-- an expression, then what goes on -/
theorem stepE {f : List (Option D) → Sto → Res D} {g : D → Sto → Res α} {Q : VK} (B : Bears X.K cl F μ H S) (r : RepS X.K cl μ (Gz F μ S H) σ ρ) (h : Sat X.K cl F μ S H R ((f ρ S).bind g) (WS W σ) Qf)
    (k : ∀ x H1 d S1 μ1, Bears X.K cl F μ1 H1 S1 → Fra μ S H μ1 S1 H1 → RepS X.K cl μ1 (Gz F μ1 S1 H1) σ ρ → RepD X.K cl μ1 (Gz F μ1 S1 H1) d x → Sat X.K cl F μ1 S1 H1 R (g d S1) (WS W σ) Qf → Q x H1) : tE X cl W f σ H Q :=
  ⟨ρ, S, μ, F, B, r, Sat.mono (Sat.bind h) fun x H1 ⟨d, S1, μ1, B1, f1, r1, h1⟩ => k x H1 d S1 μ1 B1 f1 (r.mono f1.pre f1.gle) r1 h1⟩
theorem stepT {f : List (Option D) → Sto → Res Bool} {g : Bool → Sto → Res α} {Q : Bool → Hp → Prop} (B : Bears X.K cl F μ H S) (r : RepS X.K cl μ (Gz F μ S H) σ ρ) (h : Sat X.K cl F μ S H R ((f ρ S).bind g) (WS W σ) Qf)
    (k : ∀ b H1 S1 μ1, Bears X.K cl F μ1 H1 S1 → Fra μ S H μ1 S1 H1 → RepS X.K cl μ1 (Gz F μ1 S1 H1) σ ρ → Sat X.K cl F μ1 S1 H1 R (g b S1) (WS W σ) Qf → Q b H1) : tT X cl W f σ H Q :=
  ⟨ρ, S, μ, F, B, r, Sat.mono (Sat.bind (R' := RB) h) fun x H1 ⟨d, S1, μ1, B1, f1, r1, h1⟩ => by
    obtain rfl : d = x := r1
    exact k d H1 S1 μ1 B1 f1 (r.mono f1.pre f1.gle) h1⟩
theorem stepA {f : List (Option D) → Sto → Res (List D)} {g : List D → Sto → Res α} {Q : List V → Hp → Prop} (B : Bears X.K cl F μ H S) (r : RepS X.K cl μ (Gz F μ S H) σ ρ) (h : Sat X.K cl F μ S H R ((f ρ S).bind g) (WS W σ) Qf)
    (k : ∀ x H1 d S1 μ1, Bears X.K cl F μ1 H1 S1 → Fra μ S H μ1 S1 H1 → RepS X.K cl μ1 (Gz F μ1 S1 H1) σ ρ → RepDL X.K cl μ1 (Gz F μ1 S1 H1) d x → Sat X.K cl F μ1 S1 H1 R (g d S1) (WS W σ) Qf → Q x H1) : tA X cl W f σ H Q :=
  ⟨ρ, S, μ, F, B, r, Sat.mono (Sat.bind h) fun x H1 ⟨d, S1, μ1, B1, f1, r1, h1⟩ => k x H1 d S1 μ1 B1 f1 (r.mono f1.pre f1.gle) r1 h1⟩
end
/-! ### names, constants -/
theorem e_var {i : Nat} {x : Str} {pos : Pos} (hN : X.N[i]? = some x) (hv : Vis X.env.scope x) (hd : (x == ("__debug__" : Str)) = false) (hcd : (x == ("__classdict__" : Str)) = false) :
    PE X (.Name x pos) (tE X cl W fun ρ S => match ρ[i]? with
      | some (some d) => .ok d S
      | _ => .bad) := by
  refine (pe_var hN hv hd hcd).imp fun σ H Q ⟨ρ, S, μ, F, B, r, h⟩ => ?_
  dsimp only at h
  cases e : ρ[i]? with
  | none => rw [e] at h; exact h.elim
  | some o =>
    cases o with
    | none => rw [e] at h; exact h.elim
    | some d =>
      rw [e] at h
      obtain ⟨v, hv, rv⟩ := r.2 i d e
      exact ⟨v, hv, h v μ H B Fra.refl rv⟩
theorem e_cst {e : Expr} {v : V} {p : P} (h : PE X e (tC v)) (r : ∀ G, Rep X.K cl G p v) : PE X e (tE X cl W fun _ S => .ok (.p p) S) :=
  h.imp fun σ H Q ⟨ρ, S, μ, F, B, _, h⟩ => h v μ H B Fra.refl (r _)
/-! ### operators -/
theorem e_un {o : Op1} {op : UnaryOp} {a : Expr} {pos : Pos} {f : List (Option D) → Sto → Res D} (ho : ∀ W, UnR X (unaryOp op) (RO1 X cl W o)) (ha : PE X a (tE X cl W f)) :
    PE X (.UnaryOp op a pos) (tE X cl W fun ρ S => (f ρ S).bind fun d S => optR ((view S d).bind fun x => (prim1 o x).map .p) S) := by
  refine ⟨fun pins s σ H Q I w => (pe_un (ho (WS W σ)) ha).run pins s σ H Q I ?_⟩
  obtain ⟨ρ, S, μ, F, B, r, h⟩ := w
  refine stepE B r h fun x H1 d S1 μ1 B1 f1 r1 rd h1 => ?_
  obtain ⟨d2, e2, h2⟩ := Sat.opt h1
  obtain ⟨p, e3, e4⟩ := Option.bind_eq_some_iff.mp e2
  obtain ⟨z, e5, rfl⟩ := Option.map_eq_some_iff.mp e4
  exact ⟨F, μ1, S1, p, z, B1, view_vw B1 rd e3, e5, h2⟩
theorem e_op2 {o : Op2} {e : Expr} {fa fb : List (Option D) → Sto → Res D} (hp : ∀ W', ∃ r : R2, (∀ x y H Q, RO2 X cl W' o x y H Q → r x y H Q) ∧ PE X e (tOp r (tE X cl W fa) (tE X cl W fb))) :
    PE X e (tE X cl W fun ρ S => (fa ρ S).bind fun d S => (fb ρ S).bind fun e S => optR ((view S d).bind fun x => (view S e).bind fun y => (prim2 o x y).map .p) S) := by
  refine ⟨fun pins s σ H Q I w => ?_⟩
  obtain ⟨r0, hr, hpe⟩ := hp (WS W σ)
  refine hpe.run pins s σ H Q I ?_
  obtain ⟨ρ, S, μ, F, B, r, h⟩ := w
  refine stepE B r h fun x H1 d S1 μ1 B1 f1 r1 rd h1 => ?_
  refine stepE B1 r1 h1 fun y H2 g S2 μ2 B2 f2 r2 rg h2 => hr _ _ _ _ ?_
  obtain ⟨d2, e2, h2⟩ := Sat.opt h2
  obtain ⟨p, e3, e4⟩ := Option.bind_eq_some_iff.mp e2
  obtain ⟨q, e6, e7⟩ := Option.bind_eq_some_iff.mp e4
  obtain ⟨z, e5, rfl⟩ := Option.map_eq_some_iff.mp e7
  exact ⟨F, μ2, S2, p, q, z, B2, view_vw B2 (rd.mono f2.pre f2.gle) e3, view_vw B2 rg e6, e5, h2⟩
theorem e_bin {o : Op2} {op : Operator} {a b : Expr} {pos : Pos} {fa fb : List (Option D) → Sto → Res D} (ho : opOf op = some o) (ha : PE X a (tE X cl W fa)) (hb : PE X b (tE X cl W fb)) :
    PE X (.BinOp a op b pos) (tE X cl W fun ρ S => (fa ρ S).bind fun d S => (fb ρ S).bind fun e S => optR ((view S d).bind fun x => (view S e).bind fun y => (prim2 o x y).map .p) S) :=
  e_op2 fun W' => ⟨_, fun _ _ _ _ h => h, pe_op (bin_ok ho) ha hb⟩
theorem c_cmp (hu : X.A.units + 66 < cLine) {o : Op2} {op : CmpOp} {a b : Expr} {fa fb : List (Option D) → Sto → Res D} (ho : cmpOf op = some o) (ha : PE X a (tE X cl W fa)) (hb : PE X b (tE X cl W fb)) :
    PC X op a b (tE X cl W fun ρ S => (fa ρ S).bind fun d S => (fb ρ S).bind fun e S => optR ((view S d).bind fun x => (view S e).bind fun y => (prim2 o x y).map .p) S) := by
  refine ⟨fun pins s σ H Q I w => ?_⟩
  obtain ⟨ρ, S, μ, F, B, r, h⟩ := w
  refine binT ha hb I (R := fun x y H => RO2 X cl (WS W σ) o x y H Q) ?_ fun v u s2 x y H2 I2 rx ry q => cmp_ok (cl := cl) (W := WS W σ) hu ho pins s2 σ H2 x y v u Q I2 rx ry q
  refine stepE B r h fun x H1 d S1 μ1 B1 f1 r1 rd h1 => ?_
  refine stepE B1 r1 h1 fun y H2 g S2 μ2 B2 f2 r2 rg h2 => ?_
  obtain ⟨d2, e2, h2⟩ := Sat.opt h2
  obtain ⟨p, e3, e4⟩ := Option.bind_eq_some_iff.mp e2
  obtain ⟨q, e6, e7⟩ := Option.bind_eq_some_iff.mp e4
  obtain ⟨z, e5, rfl⟩ := Option.map_eq_some_iff.mp e7
  exact ⟨F, μ2, S2, p, q, z, B2, view_vw B2 (rd.mono f2.pre f2.gle) e3, view_vw B2 rg e6, e5, h2⟩
theorem e_ix (hu : X.A.units + 66 < cLine) {a b : Expr} {pos : Pos} {fa fb : List (Option D) → Sto → Res D} (hs : noSlice b = true) (ha : PE X a (tE X cl W fa)) (hb : PE X b (tE X cl W fb)) :
    PE X (.Subscript a b pos) (tE X cl W fun ρ S => (fa ρ S).bind fun d S => (fb ρ S).bind fun e S => optR ((view S d).bind fun x => (view S e).bind fun y => (prim2 .ix x y).map .p) S) :=
  e_op2 fun W' => ⟨_, fun _ _ _ _ h => h, pe_ix (ix_ok hu) ha hb (plain_ix hs)⟩
theorem PC.imp {X : Cx} {op : CmpOp} {a b : Expr} {t t' : TE} (h : PC X op a b t) (q : ∀ σ H Q, t' σ H Q → t σ H Q) : PC X op a b t' := ⟨fun pins s σ H Q I w => h.run pins s σ H Q I (q σ H Q w)⟩
theorem c_isN {o : Op1} {op : CmpOp} {a : Expr} {j : Nat} {p2 : Pos} {f : List (Option D) → Sto → Res D} (ho : (o = .isN ∧ op = .Is) ∨ (o = .notN ∧ op = .IsNot)) (ha : PE X a (tE X cl W f)) :
    PC X op a (.Constant .none j p2) (tE X cl W fun ρ S => (f ρ S).bind fun d S => optR ((view S d).bind fun x => (prim1 o x).map .p) S) := by
  rcases ho with ⟨rfl, rfl⟩ | ⟨rfl, rfl⟩
  · refine PC.imp (pc_isN ha) fun σ H Q ⟨ρ, S, μ, F, B, r, h⟩ => stepE B r h fun x H1 d S1 μ1 B1 f1 r1 rd h1 => ?_
    obtain ⟨d2, e2, h2⟩ := Sat.opt h1
    obtain ⟨p, e3, e4⟩ := Option.bind_eq_some_iff.mp e2
    obtain ⟨z, e5, rfl⟩ := Option.map_eq_some_iff.mp e4
    rw [(vw_isN (view_vw B1 rd e3)).1] at e5
    cases e5
    exact give B1 h2 rfl
  · refine PC.imp (pc_notN ha) fun σ H Q ⟨ρ, S, μ, F, B, r, h⟩ => stepE B r h fun x H1 d S1 μ1 B1 f1 r1 rd h1 => ?_
    obtain ⟨d2, e2, h2⟩ := Sat.opt h1
    obtain ⟨p, e3, e4⟩ := Option.bind_eq_some_iff.mp e2
    obtain ⟨z, e5, rfl⟩ := Option.map_eq_some_iff.mp e4
    rw [(vw_isN (view_vw B1 rd e3)).2] at e5
    cases e5
    exact give B1 h2 rfl
theorem un_neg_ok (W : XK) : UnR X (unaryOp .USub) (RO1 X cl W .neg) := by
  intro pins s σ H x v Q I rx h
  obtain ⟨F, μ, S, p, z, B, vp, hz, h⟩ := h
  cases p <;> first | (cases hz; done) | skip
  cases hz
  exact un_neg pins s σ H x v Q I rx ⟨_, vp, give B h rfl⟩
/-- not, of a bool, as a value -/
theorem e_not {a : Expr} {pos : Pos} {f : List (Option D) → Sto → Res D} (ha : PE X a (tE X cl W f)) :
    PE X (.UnaryOp .Not a pos) (tE X cl W fun ρ S => (f ρ S).bind fun d S => optR ((view S d).bind fun x => (prim1 .not x).map .p) S) := by
  refine (pe_not ha).imp fun σ H Q ⟨ρ, S, μ, F, B, r, h⟩ => stepE B r h fun x H1 d S1 μ1 B1 f1 r1 rd h1 => ?_
  obtain ⟨d2, e2, h2⟩ := Sat.opt h1
  obtain ⟨p, e3, e4⟩ := Option.bind_eq_some_iff.mp e2
  obtain ⟨z, e5, rfl⟩ := Option.map_eq_some_iff.mp e4
  cases p <;> first | (cases e5; done) | skip
  cases e5
  exact ⟨_, view_vw B1 rd e3, give B1 h2 rfl⟩
/-- a value that is a known bool -/
theorem rep_bl {G : Hp} {b : Bool} {μ : List Addr} {x : V} (h : RepD X.K cl μ G (.p (.bl b)) x) : x = .bl b := h
theorem e_and {a b : Expr} {r : List Expr} {pos : Pos} {fa fb : List (Option D) → Sto → Res D} (ha : PE X a (tE X cl W fa)) (hb : PE X (.BoolOp .And (b :: r) pos) (tE X cl W fb)) :
    PE X (.BoolOp .And (a :: b :: r) pos) (tE X cl W fun ρ S => (fa ρ S).bind fun d S => match d with
      | .p (.bl true) => fb ρ S
      | .p (.bl false) => .ok (.p (.bl false)) S
      | _ => .bad) := by
  refine (pe_and ha hb).imp fun σ H Q ⟨ρ, S, μ, F, B, r, h⟩ => stepE B r h fun x H1 d S1 μ1 B1 f1 r1 rd h1 => ?_
  split at h1
  · obtain rfl := rep_bl rd
    exact ⟨true, rfl, ⟨ρ, S1, μ1, F, B1, r1, h1⟩⟩
  · obtain rfl := rep_bl rd
    exact ⟨false, rfl, give B1 h1 rfl⟩
  · exact h1.elim
theorem e_or {a b : Expr} {r : List Expr} {pos : Pos} {fa fb : List (Option D) → Sto → Res D} (ha : PE X a (tE X cl W fa)) (hb : PE X (.BoolOp .Or (b :: r) pos) (tE X cl W fb)) :
    PE X (.BoolOp .Or (a :: b :: r) pos) (tE X cl W fun ρ S => (fa ρ S).bind fun d S => match d with
      | .p (.bl true) => .ok (.p (.bl true)) S
      | .p (.bl false) => fb ρ S
      | _ => .bad) := by
  refine (pe_or ha hb).imp fun σ H Q ⟨ρ, S, μ, F, B, r, h⟩ => stepE B r h fun x H1 d S1 μ1 B1 f1 r1 rd h1 => ?_
  split at h1
  · obtain rfl := rep_bl rd
    exact ⟨true, rfl, give B1 h1 rfl⟩
  · obtain rfl := rep_bl rd
    exact ⟨false, rfl, ⟨ρ, S1, μ1, F, B1, r1, h1⟩⟩
  · exact h1.elim
theorem e_ifx {c a b : Expr} {pos : Pos} {ft : List (Option D) → Sto → Res Bool} {fa fb : List (Option D) → Sto → Res D} (hc : PT X c (tT X cl W ft)) (ha : PE X a (tE X cl W fa)) (hb : PE X b (tE X cl W fb)) :
    PE X (.IfExp c a b pos) (tE X cl W fun ρ S => (ft ρ S).bind fun t S => if t then fa ρ S else fb ρ S) := by
  refine (pe_ifExp hc ha hb).imp fun σ H Q ⟨ρ, S, μ, F, B, r, h⟩ => stepT B r h fun b H1 S1 μ1 B1 f1 r1 h1 => ?_
  cases b with
  | true => exact ⟨ρ, S1, μ1, F, B1, r1, h1⟩
  | false => exact ⟨ρ, S1, μ1, F, B1, r1, h1⟩
theorem e_chain (hu : X.A.units + 66 < cLine) {o p : Op2} {op op' : CmpOp} {a b c : Expr} {pos : Pos} {fa fb fc : List (Option D) → Sto → Res D} (ho : cmpOf op = some o) (hp : cmpOf op' = some p) (hm : lastMarks [op, op'] [b, c] = false)
    (ha : PE X a (tE X cl W fa)) (hb : PE X b (tE X cl W fb)) (hc : PE X c (tE X cl W fc)) :
    PE X (.Compare a [op, op'] [b, c] pos) (tE X cl W fun ρ S => (fa ρ S).bind fun d S => (fb ρ S).bind fun e S =>
      match (view S d).bind fun x => (view S e).bind fun y => prim2 o x y with
      | some (.bl true) => (fc ρ S).bind fun g S => optR ((view S e).bind fun x => (view S g).bind fun y => (prim2 p x y).map .p) S
      | some (.bl false) => .ok (.p (.bl false)) S
      | _ => .bad) := by
  refine ⟨fun pins s σ H Q I w => (pe_chain (cmp_ok (cl := cl) (W := WS W σ) hu ho) (cmp_ok (cl := cl) (W := WS W σ) hu hp) ha hb hc hm).run pins s σ H Q I ?_⟩
  obtain ⟨ρ, S, μ, F, B, r, h⟩ := w
  refine stepE B r h fun x H1 d S1 μ1 B1 f1 r1 rd h1 => stepE B1 r1 h1 fun y H2 g S2 μ2 B2 f2 r2 rg h2 => ?_
  have rd2 := rd.mono f2.pre f2.gle (cl := cl)
  split at h2
  · rename_i e2
    obtain ⟨p1, e3, e4⟩ := Option.bind_eq_some_iff.mp e2
    obtain ⟨q1, e5, e6⟩ := Option.bind_eq_some_iff.mp e4
    refine ⟨F, μ2, S2, p1, q1, .bl true, B2, view_vw B2 rd2 e3, view_vw B2 rg e5, e6, fun v μ3 H3 B3 f3 r3 => ⟨true, r3, ?_⟩⟩
    show tE X cl W fc σ H3 _
    refine stepE B3 (r2.mono f3.pre f3.gle) (Sat.later f3 h2) fun z H4 k S4 μ4 B4 f4 r4 rk h4 => ?_
    obtain ⟨d2, e2, h4⟩ := Sat.opt h4
    obtain ⟨p2, e3, e4⟩ := Option.bind_eq_some_iff.mp e2
    obtain ⟨q2, e5, e6⟩ := Option.bind_eq_some_iff.mp e4
    obtain ⟨z2, e7, rfl⟩ := Option.map_eq_some_iff.mp e6
    exact ⟨F, μ4, S4, p2, q2, z2, B4, view_vw B4 ((rg.mono f3.pre f3.gle).mono f4.pre f4.gle) e3, view_vw B4 rk e5, e7, h4⟩
  · rename_i e2
    obtain ⟨p1, e3, e4⟩ := Option.bind_eq_some_iff.mp e2
    obtain ⟨q1, e5, e6⟩ := Option.bind_eq_some_iff.mp e4
    exact ⟨F, μ2, S2, p1, q1, .bl false, B2, view_vw B2 rd2 e3, view_vw B2 rg e5, e6, fun v μ3 H3 B3 f3 r3 => ⟨false, r3, give B3 (Sat.later f3 h2) rfl⟩⟩
  · exact h2.elim
/-! ### arguments, displays -/
theorem a_nil : PA X [] (tA X cl W fun _ S => .ok [] S) := pa_nil.imp fun σ H Q ⟨ρ, S, μ, F, B, r, h⟩ => h [] μ H B Fra.refl rfl
theorem a_cons {e : Expr} {es : List Expr} {f : List (Option D) → Sto → Res D} {g : List (Option D) → Sto → Res (List D)} (hs : noStar e = true) (he : PE X e (tE X cl W f)) (hes : PA X es (tA X cl W g)) :
    PA X (e :: es) (tA X cl W fun ρ S => (f ρ S).bind fun d S => (g ρ S).bind fun ds S => .ok (d :: ds) S) := by
  refine (pa_cons he hes (star_cons hs)).imp fun σ H Q ⟨ρ, S, μ, F, B, r, h⟩ => stepE B r h fun x H1 d S1 μ1 B1 f1 r1 rd h1 => stepA B1 r1 h1 fun xs H2 ds S2 μ2 B2 f2 r2 rds h2 => ?_
  exact h2 _ μ2 H2 B2 Fra.refl ⟨x, xs, rfl, rd.mono f2.pre f2.gle, rds⟩
theorem e_tup {es : List Expr} {x1} {pos : Pos} {g : List (Option D) → Sto → Res (List D)} (ha : PA X es (tA X cl W g)) :
    PE X (.Tuple es x1 pos) (tE X cl W fun ρ S => (g ρ S).bind fun ds S => (frzL S ds).bind fun ps S => if ps.length ≤ sizeLine then .ok (.p (.tup ps)) S else .bad) := by
  refine (pe_tup ha).imp fun σ H Q ⟨ρ, S, μ, F, B, r, h⟩ => stepA B r h fun xs H1 ds S1 μ1 B1 f1 r1 rds h1 => ?_
  obtain ⟨ps, S2, e2, l2, B2, f2, r2, h2⟩ := Sat.frzL B1 rds h1
  split at h2
  · exact ⟨by rw [← r2.len]; assumption, give_tup B2 h2 r2⟩
  · exact h2.elim
theorem give_box {l : List P} {xs : List V} {F μ : List Addr} {S : Sto} {H : Hp} {K : PySem.W.Frag} {W : XK} {Q : VK} (B : Bears K cl F μ H S) (h : Sat K cl F μ S H (RD K cl) (.ok (.box S.length) (S ++ [some (.lst l)])) W Q) (r : RepL K cl (Gz F μ S H) l xs) (p : Addr) (hp : H p = none) : Q (.ref p) (upd H p (.lst xs)) := by
  obtain ⟨B1, f1⟩ := B.boxed (o := .lst l) (H' := upd H p (.lst xs)) (upd_keep hp) hp (by rw [upd_same]; exact fun z => by cases z) (fun z => B.hd p z hp) ⟨xs, upd_same, r⟩
  exact h _ _ _ B1 f1 ⟨p, rfl, by rw [← B.len]; simp⟩
theorem e_lst {bx : Bool} {es : List Expr} {pos : Pos} {g : List (Option D) → Sto → Res (List D)} (ha : PA X es (tA X cl W g)) :
    PE X (.List es pos) (tE X cl W fun ρ S => (g ρ S).bind fun ds S => (frzL S ds).bind fun ps S => if ps.length ≤ sizeLine then boxIf bx (.lst ps) S else .bad) := by
  refine (pe_lst ha).imp fun σ H Q ⟨ρ, S, μ, F, B, r, h⟩ => stepA B r h fun xs H1 ds S1 μ1 B1 f1 r1 rds h1 => ?_
  obtain ⟨ps, S2, e2, l2, B2, f2, r2, h2⟩ := Sat.frzL B1 rds h1
  split at h2
  · refine ⟨by rw [← r2.len]; assumption, ?_⟩
    cases bx with
    | false => exact give_lst B2 h2 r2
    | true => exact give_box B2 h2 r2
  · exact h2.elim
theorem e_dnew {pos : Pos} : PE X (.Dict [] [] pos) (tE X cl W fun _ S => boxIf true (.dk [] []) S) := by
  refine pe_dnewK.imp fun σ H Q ⟨ρ, S, μ, F, B, r, h⟩ p hp => ?_
  obtain ⟨B1, f1⟩ := B.boxed (o := .dk [] []) (H' := upd H p (.dK [])) (upd_keep hp) hp (by rw [upd_same]; exact fun z => by cases z) (fun z => B.hd p z hp) ⟨[], upd_same, rfl, rfl⟩
  exact h _ _ _ B1 f1 ⟨p, rfl, by rw [← B.len]; simp⟩
/-! ### built-ins of one argument -/
theorem e_call1 {o : Op1} {e a : Expr} {f : List (Option D) → Sto → Res D} (hp : ∀ W', PE X e (tCB (RC1 X cl W' o) (tCons (tE X cl W f) tNil))) :
    PE X e (tE X cl W fun ρ S => (f ρ S).bind fun d S => optR ((view S d).bind fun x => (prim1 o x).map .p) S) := by
  refine ⟨fun pins s σ H Q I w => (hp (WS W σ)).run pins s σ H Q I ?_⟩
  obtain ⟨ρ, S, μ, F, B, r, h⟩ := w
  refine stepE B r h fun x H1 d S1 μ1 B1 f1 r1 rd h1 => ?_
  obtain ⟨d2, e2, h2⟩ := Sat.opt h1
  obtain ⟨p, e3, e4⟩ := Option.bind_eq_some_iff.mp e2
  obtain ⟨z, e5, rfl⟩ := Option.map_eq_some_iff.mp e4
  exact ⟨x, rfl, F, μ1, S1, p, z, B1, view_vw B1 rd e3, e5, h2⟩
theorem e_bi {o : Op1} {id : String} {x : Str} {a : Expr} {p pos : Pos} {f : List (Option D) → Sto → Res D} (hc : ∀ W', CallR X (.builtin id) (RC1 X cl W' o)) (hg : Gl X x) (hm : X.mg x = none) (hv : bootBuiltins x = some (.builtin id)) (hn : x ≠ "__name__") (hd : (x == ("__debug__" : Str)) = false)
    (hs : noStar a = true) (ha : PE X a (tE X cl W f)) :
    PE X (.Call (.Name x p) [a] [] pos) (tE X cl W fun ρ S => (f ρ S).bind fun d S => optR ((view S d).bind fun x => (prim1 o x).map .p) S) :=
  e_call1 (a := a) fun W' => pe_callB (hc W') hg hm hv (pa_cons ha pa_nil (star_cons hs)) (he := star_cons hs) (hpl := rfl) (hn := hn) (hdb := hd)
end
end PD
/-! A call: the def sees its own boxes alone. -/
namespace PD
open PySem L2
def resL (k : Nat) : LR → Res D
  | .ok (.p r) os => if os.length = k ∧ os.all O.pure = true then .ok (.p r) (os.map some) else .bad
  | .ok (.o o) os => if os.length = k ∧ os.all O.pure = true ∧ o.pure = true then .ok (.box os.length) (os.map some ++ [some o]) else .bad
  | .rse c xs vs os => if os.length = k ∧ os.all O.pure = true then .rse c xs vs (os.map some) else .bad
  | .bad => .bad
/-- a def's promise, by what it does with its arguments -/
def spL (K : PySem.W.Frag) (cl : Nat → Addr) (Fn : List Arg → LR) : Sp := fun vs H Q E => ∃ F μ as, Bears K cl F μ H (boxesA as) ∧ RepDL K cl μ (Gz F μ (boxesA as) H) (numA 0 as) vs ∧ (boxesA as).all purO = true ∧
  Sat K cl F μ (boxesA as) H (RD K cl) (resL (boxesA as).length (Fn as)) E Q
theorem gz_congr {F μ F' μ' : List Addr} {S S' : Sto} {H : Hp} (h : ∀ a, (Liv μ S a ∨ a ∈ F) ↔ (Liv μ' S' a ∨ a ∈ F')) : Gz F μ S H = Gz F' μ' S' H := by
  funext a
  unfold Gz
  by_cases c : Liv μ S a ∨ a ∈ F
  · rw [if_pos c, if_pos ((h a).mp c)]
  · rw [if_neg c, if_neg (fun z => c ((h a).mpr z))]
theorem so_len {S : Sto} : ∀ {ns : List Nat} {os : List O}, (setOuts S ns os).length = S.length
  | [], _ => rfl
  | _ :: _, [] => rfl
  | n :: ns, o :: os => by
    show ((setOuts S ns os).set n (some o)).length = _
    rw [List.length_set, so_len]
theorem so_out {S : Sto} {m : Nat} : ∀ {ns : List Nat} {os : List O}, m ∉ ns → (setOuts S ns os)[m]? = S[m]?
  | [], _, _ => rfl
  | _ :: _, [], _ => rfl
  | n :: ns, o :: os, h => by
    show ((setOuts S ns os).set n (some o))[m]? = _
    rw [List.getElem?_set_ne (fun e => h (by rw [e]; exact List.mem_cons_self)), so_out (fun z => h (List.mem_cons_of_mem _ z))]
theorem so_in {S : Sto} : ∀ {ns : List Nat} {os : List O} {j n : Nat} {o : O}, ns.Nodup → ns[j]? = some n → os[j]? = some o → n < S.length → (setOuts S ns os)[n]? = some (some o)
  | [], _, _, _, _, _, h, _, _ => by simp at h
  | _ :: _, [], _, _, _, _, _, h, _ => by simp at h
  | m :: ns, x :: os, 0, n, o, nd, h1, h2, hl => by
    simp at h1 h2
    subst h1; subst h2
    show ((setOuts S ns os).set m (some x))[m]? = _
    rw [List.getElem?_set_self (by rw [so_len]; exact hl)]
  | m :: ns, x :: os, j + 1, n, o, nd, h1, h2, hl => by
    have h1' : ns[j]? = some n := by simpa using h1
    have hne : m ≠ n := fun e => by
      have hm := List.mem_of_getElem? h1'
      exact (List.nodup_cons.mp nd).1 (e ▸ hm)
    show ((setOuts S ns os).set m (some x))[n]? = _
    rw [List.getElem?_set_ne hne]
    exact so_in (List.nodup_cons.mp nd).2 h1' (by simpa using h2) hl
section
variable {K : PySem.W.Frag} {cl : Nat → Addr} {F μ : List Addr} {S : Sto} {H : Hp} {W : XK}
/-- what toArgs tells -/
theorem args_ns {S : Sto} : ∀ {ds : List D} {as : List Arg} {ns : List Nat}, toArgs S ds = some (as, ns) → (boxesA as).length = ns.length ∧ ∀ (j n : Nat), ns[j]? = some n → ∃ o, (boxesA as)[j]? = some (some o) ∧ S[n]? = some (some o)
  | [], as, ns, h => by
    cases h
    exact ⟨rfl, fun j n h => by simp at h⟩
  | .p x :: ds, as, ns, h => by
    simp only [toArgs] at h
    obtain ⟨⟨as', ns'⟩, h1, h2⟩ := Option.map_eq_some_iff.mp h
    cases h2
    have q := args_ns h1
    exact q
  | .box n :: ds, as, ns, h => by
    simp only [toArgs] at h
    split at h
    · rename_i o hs
      obtain ⟨⟨as', ns'⟩, h1, h2⟩ := Option.map_eq_some_iff.mp h
      cases h2
      obtain ⟨l, g⟩ := args_ns h1
      refine ⟨by show (some o :: boxesA as').length = (n :: ns').length; rw [List.length_cons, List.length_cons, l], fun j m hj => ?_⟩
      cases j with
      | zero =>
        simp at hj
        subst hj
        exact ⟨o, rfl, hs⟩
      | succ j =>
        have hj' : ns'[j]? = some m := by simpa using hj
        obtain ⟨o', h3, h4⟩ := g j m hj'
        exact ⟨o', by show (some o :: boxesA as')[j + 1]? = _; simpa using h3, h4⟩
    · cases h
theorem args_rep {S : Sto} {G : Hp} {μ μ' : List Addr} : ∀ {ds : List D} {as : List Arg} {ns : List Nat} {vs : List V} (k : Nat), toArgs S ds = some (as, ns) → RepDL K cl μ G ds vs → (∀ (j n : Nat), ns[j]? = some n → μ'[k + j]? = μ[n]?) → RepDL K cl μ' G (numA k as) vs
  | [], as, ns, vs, k, h, r, _ => by
    cases h
    exact r
  | .p x :: ds, as, ns, vs, k, h, r, q => by
    simp only [toArgs] at h
    obtain ⟨⟨as', ns'⟩, h1, h2⟩ := Option.map_eq_some_iff.mp h
    cases h2
    obtain ⟨v, t, e, r1, r2⟩ := r
    exact ⟨v, t, e, r1, args_rep k h1 r2 q⟩
  | .box n :: ds, as, ns, vs, k, h, r, q => by
    simp only [toArgs] at h
    split at h
    · obtain ⟨⟨as', ns'⟩, h1, h2⟩ := Option.map_eq_some_iff.mp h
      cases h2
      obtain ⟨v, t, e, ⟨a, ev, r1⟩, r2⟩ := r
      refine ⟨v, t, e, ⟨a, ev, ?_⟩, args_rep (k + 1) h1 r2 fun j m hj => ?_⟩
      · have := q 0 n (by simp)
        rw [Nat.add_zero] at this
        rw [this, r1]
      · have := q (j + 1) m (by simpa using hj)
        rw [← this]
        congr 1
        omega
    · cases h
theorem repDL_pureO {μ μ' : List Addr} {G : Hp} : ∀ {vs : List D} {xs : List V}, (pureD vs).isSome = true → RepDL K cl μ G vs xs → RepDL K cl μ' G vs xs
  | [], xs, _, r => r
  | .box n :: vs, xs, h, r => by cases h
  | .p x :: vs, xs, h, r => by
    obtain ⟨v, t, e, r1, r2⟩ := r
    have h' : ((pureD vs).map (x :: ·)).isSome = true := h
    rw [Option.isSome_map] at h'
    exact ⟨v, t, e, r1, repDL_pureO h' r2⟩
theorem ObjAt.pure {μ μ' : List Addr} {G : Hp} {a : Addr} {o : O} (h : o.pure = true) (q : ObjAt K cl μ G H a o) : ObjAt K cl μ' G H a o := by
  cases o with
  | lst l => exact q
  | dk ks vs => exact q
  | dt ks vs => exact q
  | ins c ns vs =>
    obtain ⟨dx, ys, e, k, r⟩ := q
    exact ⟨dx, ys, e, k, repDL_pureO h r⟩
theorem purO_get {S : Sto} {j : Nat} {o : O} (h : S.all purO = true) (e : S[j]? = some (some o)) : o.pure = true := by
  rw [List.all_eq_true] at h
  exact h _ (List.mem_of_getElem? e)
theorem pre_len {α : Type} {l m : List α} (p : l <+: m) (h : m.length = l.length) : m = l := by
  obtain ⟨t, rfl⟩ := p
  have : t.length = 0 := by simp at h; exact by simpa using h
  rw [List.length_eq_zero_iff.mp this, List.append_nil]
open Classical in
/-- THE CALL: from the caller's store to the def's own -/
theorem lift {Fn : List Arg → LR} {ds : List D} {vs : List V} {Q : VK} (B : Bears K cl F μ H S) (r : RepDL K cl μ (Gz F μ S H) ds vs) (h : Sat K cl F μ S H (RD K cl) (callA Fn ds S) W Q) : spL K cl Fn vs H Q W := by
  unfold callA at h
  cases ha : toArgs S ds with
  | none => rw [ha] at h; exact h.elim
  | some p =>
    obtain ⟨as, ns⟩ := p
    rw [ha] at h
    simp only at h
    split at h
    case isFalse => exact h.elim
    case isTrue hc =>
      obtain ⟨hnd, hpu⟩ := hc
      obtain ⟨hl, hg⟩ := args_ns ha
      have hns : ∀ n ∈ ns, ∃ o, S[n]? = some (some o) := fun n hn => by
        obtain ⟨j, hj⟩ := List.mem_iff_getElem?.mp hn
        obtain ⟨o, _, h2⟩ := hg j n hj
        exact ⟨o, h2⟩
      have hlt : ∀ n ∈ ns, n < S.length := fun n hn => let ⟨o, e⟩ := hns n hn; (List.getElem?_eq_some_iff.mp e).1
      have hltm : ∀ n ∈ ns, n < μ.length := fun n hn => by rw [B.len]; exact hlt n hn
      -- the def's boxes
      let μ' : List Addr := ns.pmap (fun n hn => μ[n]'(hltm n hn)) (fun n hn => hn)
      have hm' : ∀ (j n : Nat), ns[j]? = some n → μ'[j]? = μ[n]? := fun j n hj => by
        have hn := List.mem_of_getElem? hj
        obtain ⟨h1, h2⟩ := List.getElem?_eq_some_iff.mp hj
        have h1' : j < μ'.length := by rw [List.length_pmap]; exact h1
        rw [List.getElem?_eq_getElem h1', List.getElem?_eq_getElem (hltm n hn)]
        congr 1
        rw [List.getElem_pmap]
        congr 1
      have hml : μ'.length = ns.length := List.length_pmap
      have hmem : ∀ a, a ∈ μ' ↔ ∃ n ∈ ns, μ[n]? = some a := fun a => by
        constructor
        · intro h
          obtain ⟨j, hj⟩ := List.mem_iff_getElem?.mp h
          have hjl : j < ns.length := by rw [← hml]; exact (List.getElem?_eq_some_iff.mp hj).1
          have e := hm' j ns[j] (List.getElem?_eq_getElem hjl)
          exact ⟨ns[j], List.getElem_mem hjl, by rw [← e]; exact hj⟩
        · rintro ⟨n, hn, e⟩
          obtain ⟨j, hj⟩ := List.mem_iff_getElem?.mp hn
          have e2 := hm' j n hj
          exact List.mem_of_getElem? (e2.trans e)
      -- the others are hidden
      let rest : List Addr := μ.filter fun a => decide (Liv μ S a) && decide (a ∉ μ')
      have hrest : ∀ a, a ∈ rest ↔ Liv μ S a ∧ a ∉ μ' := fun a => by
        show a ∈ List.filter _ μ ↔ _
        rw [List.mem_filter]
        simp only [Bool.and_eq_true, decide_eq_true_eq]
        exact ⟨fun z => z.2, fun z => ⟨let ⟨n, o, e, _⟩ := z.1; List.mem_of_getElem? e, z⟩⟩
      have liv' : ∀ (T : Sto), T.length = ns.length → (∀ j, j < T.length → ∃ o, T[j]? = some (some o)) → ∀ a, Liv μ' T a ↔ a ∈ μ' := fun T hT hs a => by
        constructor
        · rintro ⟨n, o, e, _⟩
          exact List.mem_of_getElem? e
        · intro z
          obtain ⟨j, hj⟩ := List.mem_iff_getElem?.mp z
          have hjl : j < T.length := by rw [hT, ← hml]; exact (List.getElem?_eq_some_iff.mp hj).1
          obtain ⟨o, ho⟩ := hs j hjl
          exact ⟨j, o, hj, ho⟩
      have inLiv : ∀ a, a ∈ μ' → Liv μ S a := fun a z => by
        obtain ⟨n, hn, e⟩ := (hmem a).mp z
        obtain ⟨o, ho⟩ := hns n hn
        exact ⟨n, o, e, ho⟩
      have bS : ∀ j, j < (boxesA as).length → ∃ o, (boxesA as)[j]? = some (some o) := fun j hj => by
        have hj2 : j < ns.length := by rw [← hl]; exact hj
        obtain ⟨o, h1, _⟩ := hg j ns[j] (List.getElem?_eq_getElem hj2)
        exact ⟨o, h1⟩
      have hide : ∀ (T : Sto), T.length = ns.length → (∀ j, j < T.length → ∃ o, T[j]? = some (some o)) → ∀ a, (Liv μ S a ∨ a ∈ F) ↔ (Liv μ' T a ∨ a ∈ F ++ rest) := fun T hT hs a => by
        rw [liv' T hT hs, List.mem_append, hrest]
        constructor
        · rintro (z | z)
          · by_cases c : a ∈ μ'
            · exact .inl c
            · exact .inr (.inr ⟨z, c⟩)
          · exact .inr (.inl z)
        · rintro (z | z | z)
          · exact .inl (inLiv a z)
          · exact .inr z
          · exact .inl z.1
      have hG : Gz F μ S H = Gz (F ++ rest) μ' (boxesA as) H := gz_congr (hide _ hl bS)
      have nd' : μ'.Nodup := by
        show List.Pairwise (· ≠ ·) μ'
        rw [List.pairwise_iff_getElem]
        intro i j hi1 hj1 hij e0
        have e : μ'[i]? = μ'[j]? := by rw [List.getElem?_eq_getElem hi1, List.getElem?_eq_getElem hj1, e0]
        have hi2 : i < ns.length := by omega
        have hj2 : j < ns.length := by omega
        have e1 := hm' i ns[i] (List.getElem?_eq_getElem hi2)
        have e2 := hm' j ns[j] (List.getElem?_eq_getElem hj2)
        have lt1 := hltm _ (List.getElem_mem hi2)
        have e3 : ns[i] = ns[j] := nd_eq B.nd (a := μ[ns[i]]) (List.getElem?_eq_getElem lt1) (by rw [← e2, ← e, e1]; exact List.getElem?_eq_getElem lt1)
        have e4 := (List.getElem_inj hnd).mp e3
        omega
      have B' : Bears K cl (F ++ rest) μ' H (boxesA as) := by
        refine ⟨by rw [hml, hl], nd', fun j a o hj ho => ?_, fun j a hj => ?_, fun j a hj => ?_, fun a ha' => ?_⟩
        · have hj2 : j < ns.length := by rw [← hml]; exact (List.getElem?_eq_some_iff.mp hj).1
          obtain ⟨o', h1, h2⟩ := hg j ns[j] (List.getElem?_eq_getElem hj2)
          rw [h1] at ho
          cases ho
          rw [hm' j ns[j] (List.getElem?_eq_getElem hj2)] at hj
          rw [← hG]
          exact ObjAt.pure (purO_get hpu h1) (B.obj _ a o hj h2)
        · obtain ⟨n, _, e⟩ := (hmem a).mp (List.mem_of_getElem? hj)
          exact B.dom n a e
        · obtain ⟨n, _, e⟩ := (hmem a).mp (List.mem_of_getElem? hj)
          rw [List.mem_append, hrest]
          rintro (z | z)
          · exact B.nf n a e z
          · exact z.2 (List.mem_of_getElem? hj)
        · rw [List.mem_append, hrest] at ha'
          rcases ha' with z | ⟨⟨n, o, e, _⟩, _⟩
          · exact B.hd a z
          · exact B.dom n a e
      refine ⟨F ++ rest, μ', as, B', ?_, hpu, ?_⟩
      · rw [← hG]
        exact args_rep 0 ha r fun j n hj => by rw [Nat.zero_add]; exact hm' j n hj
      · -- the way back
        have keepM : ∀ {μ2 : List Addr} {T : Sto} {H' : Hp}, Fra μ' (boxesA as) H μ2 T H' → ∀ a u, ¬ Liv μ S a → H a = some u → H' a = some u := fun f a u h1 h2 =>
          (f.keep a u (fun z => h1 (inLiv a ((liv' _ hl bS a).mp z))) h2).1
        have livO : ∀ (os : List O), os.length = ns.length → ∀ a, Liv μ (setOuts S ns os) a ↔ Liv μ S a := fun os ho a => by
          constructor
          · rintro ⟨m, o, e1, e2⟩
            by_cases c : m ∈ ns
            · obtain ⟨o', ho'⟩ := hns m c
              exact ⟨m, o', e1, ho'⟩
            · rw [so_out c] at e2
              exact ⟨m, o, e1, e2⟩
          · rintro ⟨m, o, e1, e2⟩
            by_cases c : m ∈ ns
            · obtain ⟨j, hj⟩ := List.mem_iff_getElem?.mp c
              have hjo : j < os.length := by rw [ho]; exact (List.getElem?_eq_some_iff.mp hj).1
              exact ⟨m, os[j], e1, so_in hnd hj (List.getElem?_eq_getElem hjo) (hlt m c)⟩
            · exact ⟨m, o, e1, by rw [so_out c]; exact e2⟩
        have back : ∀ (os : List O) (μ2 : List Addr) (T : Sto) (H' : Hp), os.length = ns.length → os.all O.pure = true → (∀ j o, os[j]? = some o → T[j]? = some (some o)) → μ' <+: μ2 → (∀ a, (Liv μ S a ∨ a ∈ F) → (Liv μ2 T a ∨ a ∈ F ++ rest)) →
            Bears K cl (F ++ rest) μ2 H' T → Fra μ' (boxesA as) H μ2 T H' → (∀ a, H a ≠ none → (Liv μ2 T a ∨ a ∈ F ++ rest) → (Liv μ S a ∨ a ∈ F)) →
            Gle (Gz (F ++ rest) μ2 T H') (Gz F μ (setOuts S ns os) H') → Bears K cl F μ H' (setOuts S ns os) ∧ Fra μ S H μ (setOuts S ns os) H' := fun os μ2 T H' ho hop hT hp hh B2 f2 hb hgl => by
          have fr : Fra μ S H μ (setOuts S ns os) H' := ⟨List.prefix_refl _, fun a u h1 h2 => ⟨keepM f2 a u h1 h2, fun z => h1 ((livO os ho a).mp z)⟩, f2.dom⟩
          refine ⟨⟨by rw [so_len]; exact B.len, B.nd, fun m a o hm ho' => ?_, fun m a hm => f2.dom a (B.dom m a hm), B.nf, fun a z => f2.dom a (B.hd a z)⟩, fr⟩
          by_cases c : m ∈ ns
          · obtain ⟨j, hj⟩ := List.mem_iff_getElem?.mp c
            have hjo : j < os.length := by rw [ho]; exact (List.getElem?_eq_some_iff.mp hj).1
            have e2 := so_in (S := S) hnd hj (List.getElem?_eq_getElem hjo) (hlt m c)
            rw [e2] at ho'
            cases ho'
            have hmj : μ2[j]? = some a := pre_get hp (by rw [hm' j m hj]; exact hm)
            have q := B2.obj j a os[j] hmj (hT j _ (List.getElem?_eq_getElem hjo))
            have pu : os[j].pure = true := by
              rw [List.all_eq_true] at hop
              exact hop _ (List.getElem_mem hjo)
            exact ObjAt.pure (μ := μ2) pu (q.mono (List.prefix_refl _) hgl fun _ e => e)
          · rw [so_out c] at ho'
            refine (B.obj m a o hm ho').mono fr.pre fr.gle fun u e => ?_
            have ca : a ∉ μ' := fun z => by
              obtain ⟨n, hn, e⟩ := (hmem a).mp z
              exact c (nd_eq B.nd hm e ▸ hn)
            exact (f2.keep a u (fun z => ca ((liv' _ hl bS a).mp z)) e).1
        cases hF : Fn as with
        | bad => rw [hF] at h; exact h.elim
        | rse c xs ws os =>
          rw [hF] at h
          simp only at h
          simp only [resL]
          split at h
          case isFalse => exact h.elim
          case isTrue hc =>
            rw [if_pos ⟨by rw [hl]; exact hc.1, hc.2⟩]
            intro dd μ2 H' B2 f2 rx
            have e2 : μ2 = μ' := pre_len f2.pre (by rw [B2.len, List.length_map, hc.1, hml])
            subst e2
            have hTs : ∀ j, j < (os.map some).length → ∃ o, (os.map some)[j]? = some (some o) := fun j hj => by
              rw [List.length_map] at hj
              exact ⟨os[j], by simp [hj]⟩
            have hTl : (os.map some).length = ns.length := by rw [List.length_map]; exact hc.1
            have eG : Gz (F ++ rest) μ' (os.map some) H' = Gz F μ (setOuts S ns os) H' := (gz_congr fun a => by rw [livO os hc.1]; exact hide _ hTl hTs a).symm
            obtain ⟨B3, f3⟩ := back os μ' (os.map some) H' hc.1 hc.2 (fun j o e => by rw [List.getElem?_map, e]; rfl) (List.prefix_refl _) (fun a => (hide _ hTl hTs a).mp) B2 f2 (fun a _ => (hide _ hTl hTs a).mpr) (by rw [eG]; exact Gle.refl _)
            exact h dd μ H' B3 f3 (by rw [← eG]; exact rx)
        | ok ra os =>
          rw [hF] at h
          cases ra with
          | p x =>
            simp only at h
            simp only [resL]
            split at h
            case isFalse => exact h.elim
            case isTrue hc =>
              rw [if_pos ⟨by rw [hl]; exact hc.1, hc.2⟩]
              intro v μ2 H' B2 f2 rx
              have e2 : μ2 = μ' := pre_len f2.pre (by rw [B2.len, List.length_map, hc.1, hml])
              subst e2
              have hTs : ∀ j, j < (os.map some).length → ∃ o, (os.map some)[j]? = some (some o) := fun j hj => by
                rw [List.length_map] at hj
                exact ⟨os[j], by simp [hj]⟩
              have hTl : (os.map some).length = ns.length := by rw [List.length_map]; exact hc.1
              have eG : Gz (F ++ rest) μ' (os.map some) H' = Gz F μ (setOuts S ns os) H' := (gz_congr fun a => by rw [livO os hc.1]; exact hide _ hTl hTs a).symm
              obtain ⟨B3, f3⟩ := back os μ' (os.map some) H' hc.1 hc.2 (fun j o e => by rw [List.getElem?_map, e]; rfl) (List.prefix_refl _) (fun a => (hide _ hTl hTs a).mp) B2 f2 (fun a _ => (hide _ hTl hTs a).mpr) (by rw [eG]; exact Gle.refl _)
              refine h v μ H' B3 f3 ?_
              show Rep K cl _ x v
              rw [← eG]
              exact rx
          | o o =>
            simp only at h
            simp only [resL]
            split at h
            case isFalse => exact h.elim
            case isTrue hc =>
              rw [if_pos ⟨by rw [hl]; exact hc.1, hc.2⟩]
              intro v μ2 H' B2 f2 rx
              obtain ⟨x, rfl, hx⟩ := rx
              have hl2 : μ2.length = os.length + 1 := by rw [B2.len]; simp
              obtain ⟨t, ht⟩ := f2.pre
              have htl : t.length = 1 := by
                have := congrArg List.length ht
                rw [List.length_append, hl2, hml, hc.1] at this
                omega
              obtain ⟨y, rfl⟩ := List.length_eq_one_iff.mp htl
              subst ht
              have exy : x = y := by
                rw [List.getElem?_append_right (by rw [hml, hc.1]; exact Nat.le_refl _)] at hx
                simp [hml, hc.1] at hx
                exact hx.symm
              subst exy
              have nx : x ∉ μ' := fun z => by
                have := B2.nd
                rw [List.nodup_append] at this
                exact this.2.2 x z x (by simp) rfl
              have lx : Liv (μ' ++ [x]) (os.map some ++ [some o]) x := ⟨os.length, o, hx, by rw [List.getElem?_append_right (by simp)]; simp⟩
              have Hx : H x = none := by
                cases e : H x with
                | none => rfl
                | some u => exact absurd lx (f2.keep x u (fun z => nx ((liv' _ hl bS x).mp z)) e).2
              have xF : x ∉ F ++ rest := fun z => B'.hd x z Hx
              have hTs : ∀ j, j < (os.map some).length → ∃ o, (os.map some)[j]? = some (some o) := fun j hj => by
                rw [List.length_map] at hj
                exact ⟨os[j], by simp [hj]⟩
              have hTl : (os.map some).length = ns.length := by rw [List.length_map]; exact hc.1
              have l2 : ∀ a, Liv (μ' ++ [x]) (os.map some ++ [some o]) a ↔ a ∈ μ' ∨ a = x := fun a => by
                constructor
                · intro z
                  rcases liv_app (by rw [hml, hTl]) z with z | z
                  · exact .inl ((liv' _ hTl hTs a).mp z)
                  · exact .inr z
                · rintro (z | z)
                  · obtain ⟨j, o', e1, e2⟩ := (liv' _ hTl hTs a).mpr z
                    exact ⟨j, o', by rw [List.getElem?_append_left (List.getElem?_eq_some_iff.mp e1).1]; exact e1, by rw [List.getElem?_append_left (List.getElem?_eq_some_iff.mp e2).1]; exact e2⟩
                  · rw [z]; exact lx
              have hgl : Gle (Gz (F ++ rest) (μ' ++ [x]) (os.map some ++ [some o]) H') (Gz F μ (setOuts S ns os) H') := Gle.of fun a u e => by
                obtain ⟨h1, h2, h3⟩ := gz_some e
                have h4 : ¬ (Liv μ S a ∨ a ∈ F) := fun z => by
                  rcases (hide _ hTl hTs a).mp z with z | z
                  · exact h1 ((l2 a).mpr (.inl ((liv' _ hTl hTs a).mp z)))
                  · exact h2 z
                rw [gz_of (fun z => h4 (.inl ((livO os hc.1 a).mp z))) (fun z => h4 (.inr z))]
                exact h3
              obtain ⟨B3, f3⟩ := back os (μ' ++ [x]) (os.map some ++ [some o]) H' hc.1 hc.2.1 (fun j o' e => by rw [List.getElem?_append_left (by rw [List.length_map]; exact (List.getElem?_eq_some_iff.mp e).1), List.getElem?_map, e]; rfl) (List.prefix_append _ _)
                (fun a z => by
                  rcases (hide _ hTl hTs a).mp z with z | z
                  · exact .inl ((l2 a).mpr (.inl ((liv' _ hTl hTs a).mp z)))
                  · exact .inr z) B2 f2
                (fun a ha' z => by
                  rcases z with z | z
                  · rcases (l2 a).mp z with z | z
                    · exact (hide _ hTl hTs a).mpr (.inl ((liv' _ hTl hTs a).mpr z))
                    · rw [z, Hx] at ha'; exact absurd rfl ha'
                  · exact (hide _ hTl hTs a).mpr (.inr z)) hgl
              have qx := B2.obj os.length x o hx (by rw [List.getElem?_append_right (by simp)]; simp)
              have nxm : x ∉ μ := B.nobox Hx
              have liv3 : ∀ a, Liv (μ ++ [x]) (setOuts S ns os ++ [some o]) a ↔ Liv μ S a ∨ a = x := fun a => by
                constructor
                · intro z
                  rcases liv_app (by rw [so_len]; exact B.len) z with z | z
                  · exact .inl ((livO os hc.1 a).mp z)
                  · exact .inr z
                · rintro (z | z)
                  · obtain ⟨j, o', e1, e2⟩ := (livO os hc.1 a).mpr z
                    exact ⟨j, o', by rw [List.getElem?_append_left (List.getElem?_eq_some_iff.mp e1).1]; exact e1, by rw [List.getElem?_append_left (List.getElem?_eq_some_iff.mp e2).1]; exact e2⟩
                  · rw [z]
                    exact ⟨μ.length, o, by simp, by rw [B.len, ← so_len (ns := ns) (os := os)]; simp⟩
              have eG : Gz (F ++ rest) (μ' ++ [x]) (os.map some ++ [some o]) H' = Gz F (μ ++ [x]) (setOuts S ns os ++ [some o]) H' := gz_congr fun a => by
                rw [l2, liv3]
                have hh := hide _ hTl hTs a
                rw [liv' _ hTl hTs a] at hh
                constructor
                · rintro ((z | z) | z)
                  · rcases hh.mpr (.inl z) with z | z
                    · exact .inl (.inl z)
                    · exact .inr z
                  · exact .inl (.inr z)
                  · rcases hh.mpr (.inr z) with z | z
                    · exact .inl (.inl z)
                    · exact .inr z
                · rintro ((z | z) | z)
                  · rcases hh.mp (.inl z) with z | z
                    · exact .inl (.inl z)
                    · exact .inr z
                  · exact .inl (.inr z)
                  · rcases hh.mp (.inr z) with z | z
                    · exact .inl (.inl z)
                    · exact .inr z
              have gl3 : Gle (Gz F μ S H) (Gz F (μ ++ [x]) (setOuts S ns os ++ [some o]) H') := Gle.of fun a u e => by
                obtain ⟨h1, h2, h3⟩ := gz_some e
                rw [gz_of (fun z => by
                  rcases (liv3 a).mp z with z | z
                  · exact h1 z
                  · rw [z, Hx] at h3; cases h3) h2]
                exact keepM f2 a u h1 h3
              have B4 : Bears K cl F (μ ++ [x]) H' (setOuts S ns os ++ [some o]) := by
                refine ⟨by simp [so_len, B.len], ?_, fun m a o' hm ho' => ?_, fun m a hm => ?_, fun m a hm => ?_, fun a z => f2.dom a (B.hd a z)⟩
                · rw [List.nodup_append]
                  exact ⟨B.nd, by simp, fun z hz y hy => by simp at hy; subst hy; exact fun e => nxm (e ▸ hz)⟩
                · by_cases c : m < μ.length
                  · rw [List.getElem?_append_left c] at hm
                    rw [List.getElem?_append_left (by rw [so_len, ← B.len]; exact c)] at ho'
                    by_cases c2 : m ∈ ns
                    · obtain ⟨j, hj⟩ := List.mem_iff_getElem?.mp c2
                      have hjo : j < os.length := by rw [hc.1]; exact (List.getElem?_eq_some_iff.mp hj).1
                      rw [so_in (S := S) hnd hj (List.getElem?_eq_getElem hjo) (hlt m c2)] at ho'
                      cases ho'
                      have hmj : (μ' ++ [x])[j]? = some a := pre_get (List.prefix_append _ _) (by rw [hm' j m hj]; exact hm)
                      have q := B2.obj j a os[j] hmj (by rw [List.getElem?_append_left (by rw [List.length_map]; exact hjo)]; simp [hjo])
                      have pu : os[j].pure = true := by
                        have := hc.2.1
                        rw [List.all_eq_true] at this
                        exact this _ (List.getElem_mem hjo)
                      rw [← eG]
                      exact ObjAt.pure pu q
                    · rw [so_out c2] at ho'
                      refine (B.obj m a o' hm ho').mono (List.prefix_append _ _) gl3 fun u e => ?_
                      have ca : a ∉ μ' := fun z => by
                        obtain ⟨n, hn, e⟩ := (hmem a).mp z
                        exact c2 (nd_eq B.nd hm e ▸ hn)
                      exact (f2.keep a u (fun z => ca ((liv' _ hl bS a).mp z)) e).1
                  · rw [List.getElem?_append_right (by omega)] at hm
                    rw [List.getElem?_append_right (by rw [so_len, ← B.len]; omega)] at ho'
                    have e1 := (List.getElem?_eq_some_iff.mp hm).2
                    have e2 := (List.getElem?_eq_some_iff.mp ho').2
                    simp at e1 e2
                    subst e1; subst e2
                    rw [← eG]
                    exact ObjAt.pure hc.2.2 qx
                · by_cases c : m < μ.length
                  · rw [List.getElem?_append_left c] at hm
                    exact f2.dom a (B.dom m a hm)
                  · rw [List.getElem?_append_right (by omega)] at hm
                    have e1 := (List.getElem?_eq_some_iff.mp hm).2
                    simp at e1
                    subst e1
                    exact B2.dom _ _ hx
                · by_cases c : m < μ.length
                  · rw [List.getElem?_append_left c] at hm
                    exact B.nf m a hm
                  · rw [List.getElem?_append_right (by omega)] at hm
                    have e1 := (List.getElem?_eq_some_iff.mp hm).2
                    simp at e1
                    subst e1
                    exact fun z => B.hd _ z Hx
              have f4 : Fra μ S H (μ ++ [x]) (setOuts S ns os ++ [some o]) H' := ⟨List.prefix_append _ _, fun a u h1 h2 => ⟨keepM f2 a u h1 h2, fun z => by
                rcases (liv3 a).mp z with z | z
                · exact h1 z
                · rw [z, Hx] at h2; cases h2⟩, f2.dom⟩
              exact h (.ref x) (μ ++ [x]) H' B4 f4 ⟨x, rfl, by rw [← B.len]; simp⟩
end
end PD
/-! Calls of defs, methods, constructors; fields; slices, get; methods of lists. -/
namespace PD
open PySem L2 PySem.Spec PyProof.Rows
theorem meth_eq {o : Expr} {m : Str} {apos pos : Pos} {es : List Expr} {env : Env} (hb : plainBase o = true) (hs : es.all noStar = true) (hn : es.length < 30) (hl : (apos.endLine == pos.line) = true) :
    eval (.Call (.Attribute o m apos) es [] pos) env = (do
      let ov ← eval o env
      standAt apos.atName
      let (f, first) ← holding [ov] (getMethod ov m (do return (← importBound o env).getD true))
      callWith pos f first (backTo pos (starEach es env)) (backToKw pos (keywordEach [] env))) := by
  have hf : methodCallForm (es.length + ([] : List Keyword).length) (backTo pos (starEach es env)) (backToKw pos (keywordEach [] env)) = true := by
    unfold methodCallForm
    rw [star_all hs]
    show (true && true && decide (es.length + 0 + 0 < 30)) = true
    simpa using hn
  show (attributeBase o m env (eval o env) >>= fun ov => standAt apos.atName >>= fun _ => methodCall o m apos pos env ov (es.length + ([] : List Keyword).length) (backTo pos (starEach es env)) (backToKw pos (keywordEach [] env))) = _
  rw [base_plain hb]
  unfold methodCall calleeOf methodCallPos
  rw [hf, hl]
  rfl
section
variable {X : Cx} {cl : Nat → Addr} {W : WX} {k : Nat} {f C : Addr} {fd : FuncData} {ps : List Str} {dvs : List V} {ds' : List Value} {Fn : List Arg → LR} {x m : Str} {p pos apos : Pos} {e o : Expr} {es : List Expr} {dfl : List P} {fz : Bool}
/-- what is handed to a def -/
def give2 (fz : Bool) (Fn : List Arg → LR) (dfl : List P) (ds : List D) (S : Sto) : Res D := if fz then (frzL S ds).bind fun ps S => callA Fn (ps.map .p ++ dfl.map .p) S else callA Fn (ds ++ dfl.map .p) S
theorem give2_ok {F μ : List Addr} {S : Sto} {H : Hp} {K : PySem.W.Frag} {W : XK} {ds : List D} {vs : List V} {Q : VK} (B : Bears K cl F μ H S) (r : RepDL K cl μ (Gz F μ S H) ds vs) (hdr : ∀ G, RepL K cl G dfl dvs)
    (h : Sat K cl F μ S H (RD K cl) (give2 fz Fn dfl ds S) W Q) : spL K cl Fn (vs ++ dvs) H Q W := by
  cases fz with
  | false => exact lift B (r.app (repDL_p (hdr _))) h
  | true =>
    obtain ⟨qs, S2, e2, l2, B2, f2, r2, h2⟩ := Sat.frzL B r h
    exact lift B2 ((repDL_p r2).app (repDL_p (hdr _))) h2
theorem e_call {g : List (Option D) → Sto → Res (List D)} (F : FnOk X.prog X.w X.K X.mg X.base (L2.CX X.prog X.w) k f fd ps (spL X.K cl Fn)) (hr : Room k X.A) (hg : Gl X x) (hm : X.mg x = some (.ref f)) (hk : PySem.W.keepIn X.K (.ref f) = true) (hb : Binds X.K fd ps ds') (hd : Vals dvs ds')
    (hdr : ∀ G, RepL X.K cl G dfl dvs) (tk : Takes X W) (hdb : (x == ("__debug__" : Str)) = false) (hs : (e :: es).all noStar = true) (ha : PA X (e :: es) (tA X cl W g)) :
    PE X (.Call (.Name x p) (e :: es) [] pos) (tE X cl W fun ρ S => (g ρ S).bind fun ds S => give2 fz Fn dfl ds S) := by
  have hs' := hs
  rw [List.all_cons, Bool.and_eq_true] at hs'
  refine (pe_callSD F hr hg hm hk hb hd (fun σ => passAt tk σ) ha hdb (star_cons hs'.1) (star_none hs'.2)).imp fun σ H Q ⟨ρ, S, μ, Fh, B, r, h⟩ => stepA B r h fun xs H1 ds S1 μ1 B1 f1 r1 rds h1 => ?_
  exact give2_ok B1 rds hdr h1
theorem e_call0 (F : FnOk X.prog X.w X.K X.mg X.base (L2.CX X.prog X.w) k f fd ps (spL X.K cl Fn)) (hr : Room k X.A) (hg : Gl X x) (hm : X.mg x = some (.ref f)) (hk : PySem.W.keepIn X.K (.ref f) = true) (hb : Binds X.K fd ps ds') (hd : Vals dvs ds')
    (hdr : ∀ G, RepL X.K cl G dfl dvs) (tk : Takes X W) (hdb : (x == ("__debug__" : Str)) = false) :
    PE X (.Call (.Name x p) [] [] pos) (tE X cl W fun ρ S => (Res.ok ([] : List D) S).bind fun ds S => give2 fz Fn dfl ds S) := by
  refine ⟨fun pins s σ H Q I h => ?_⟩
  refine wpAny_Call_Name_kw (ld_glob I hg hm ?_ hdb)
  obtain ⟨ρ, S, μ, Fh, B, r, h⟩ := h
  exact PySem.W.callWith_K0 I.kIn hk (run_fnSD (us := []) (vs := []) (E := WS W) F hr hb hd (passAt tk σ) I .nil (give2_ok (ds := []) (vs := []) B rfl hdr h))
/-! ### instances -/
theorem look_field {K : PySem.W.Frag} {G : Hp} {f : Str} : ∀ {ys : List (Str × V)} {ns : List Str} {vs : List P}, ys.map (·.1) = ns → RepL K cl G vs (ys.map (·.2)) →
    (∀ q, look ns vs f = some q → ∃ w, ys.lookup f = some w ∧ Rep K cl G q w) ∧ (hasK ns f = false → ys.lookup f = none)
  | [], ns, vs, h, r => by
    cases h
    exact ⟨fun q e => by (cases vs <;> cases e), fun _ => rfl⟩
  | (n, v) :: ys, ns, vs, h, r => by
    cases h
    cases vs with
    | nil => cases (show (v :: _ : List V) = [] from r)
    | cons q0 vs =>
      obtain ⟨v', t, e, r1, r2⟩ := r
      cases e
      have ih := look_field (f := f) (ys := ys) rfl r2
      have e0 : ((n, v) :: ys).map (·.1) = n :: ys.map (·.1) := rfl
      rw [e0]
      by_cases c : n = f
      · subst c
        refine ⟨fun q hq => ⟨v, ?_, ?_⟩, fun hq => ?_⟩
        · simp [List.lookup]
        · simp only [look, if_true] at hq
          cases hq
          exact r1
        · simp [hasK] at hq
      · have e2 : ((n, v) :: ys).lookup f = ys.lookup f := by
          have : (f == n) = false := by simpa using fun z => c z.symm
          simp [List.lookup, this]
        rw [e2]
        refine ⟨fun q hq => ih.1 q ?_, fun hq => ih.2 ?_⟩
        · simpa [look, c] using hq
        · simp only [hasK, List.mem_cons, decide_eq_false_iff_not, not_or] at hq ⊢
          exact hq.2
theorem lookD_field {K : PySem.W.Frag} {μ : List Addr} {G : Hp} {f : Str} : ∀ {ys : List (Str × V)} {ns : List Str} {vs : List D}, ys.map (·.1) = ns → RepDL K cl μ G vs (ys.map (·.2)) →
    (∀ q, (ns.zip vs).lookup f = some q → ∃ w, ys.lookup f = some w ∧ RepD K cl μ G q w) ∧ (hasK ns f = false → ys.lookup f = none) ∧ ((ns.zip vs).lookup f = none → ys.lookup f = none)
  | [], ns, vs, h, r => by
    cases h
    exact ⟨fun q e => by (cases e), fun _ => rfl, fun _ => rfl⟩
  | (n, v) :: ys, ns, vs, h, r => by
    cases h
    cases vs with
    | nil => cases (show (v :: _ : List V) = [] from r)
    | cons q0 vs =>
      obtain ⟨v', t, e, r1, r2⟩ := r
      cases e
      have ih := lookD_field (f := f) (ys := ys) rfl r2
      have e0 : ((n, v) :: ys).map (·.1) = n :: ys.map (·.1) := rfl
      have e1 : (n :: ys.map (·.1)).zip (q0 :: vs) = (n, q0) :: (ys.map (·.1)).zip vs := rfl
      rw [e0, e1]
      by_cases c : n = f
      · subst c
        refine ⟨fun q hq => ⟨v, by simp [List.lookup], ?_⟩, fun hq => ?_, fun hq => ?_⟩
        · simp [List.lookup] at hq
          subst hq
          exact r1
        · simp [hasK] at hq
        · simp [List.lookup] at hq
      · have b : (f == n) = false := by simpa using fun z => c z.symm
        have e2 : ((n, v) :: ys).lookup f = ys.lookup f := by simp [List.lookup, b]
        have e3 : ((n, q0) :: (ys.map (·.1)).zip vs).lookup f = ((ys.map (·.1)).zip vs).lookup f := by simp [List.lookup, b]
        rw [e2, e3]
        refine ⟨ih.1, fun hq => ih.2.1 ?_, ih.2.2⟩
        simp only [hasK, List.mem_cons, decide_eq_false_iff_not, not_or] at hq ⊢
        exact hq.2
/-- where an instance stands -/
theorem ins_at {K : PySem.W.Frag} {F μ : List Addr} {S : Sto} {H : Hp} {d : D} {v : V} {c : Nat} (B : Bears K cl F μ H S) (r : RepD K cl μ (Gz F μ S H) d v) (h : isIns c S d = true) :
    ∃ a dx fs, v = .ref a ∧ H a = some (.ins (cl c) dx fs) ∧ (∀ m, noAttr S m d = true → fs.lookup m = none) ∧ (∀ f q, fieldOf S f d = some q → ∃ w, fs.lookup f = some w ∧ RepD K cl μ (Gz F μ S H) q w) := by
  cases d with
  | p x =>
    cases x <;> first | (cases h; done) | skip
    rename_i c' ns vs
    obtain ⟨a, dx, ys, rfl, ha, hk, hv⟩ := r
    have hc : c = c' := by simpa [isIns] using h
    subst hc
    have q := fun f => look_field (f := f) hk hv
    refine ⟨a, dx, ys, rfl, gz_gle.ex a (.ins _ _ _) trivial ha, fun m hm => (q m).2 (by simpa [noAttr] using hm), fun f z hz => ?_⟩
    simp only [fieldOf] at hz
    obtain ⟨w, e1, e2⟩ := Option.map_eq_some_iff.mp hz
    subst e2
    exact (q f).1 w e1
  | box n =>
    obtain ⟨a, rfl, hn⟩ := r
    simp only [isIns] at h
    split at h
    · rename_i c' ns vs hs
      have hc : c = c' := by simpa using h
      subst hc
      obtain ⟨dx, ys, ha, hk, hv⟩ := B.obj n a _ hn hs
      have q := fun f => lookD_field (f := f) hk hv
      refine ⟨a, dx, ys, rfl, ha, fun m hm => (q m).2.1 (by simpa [noAttr, hs] using hm), fun f z hz => ?_⟩
      simp only [fieldOf, hs] at hz
      exact (q f).1 z hz
    · cases h
theorem e_fld {c : Nat} {at_ : Str} {fe : List (Option D) → Sto → Res D} (hc : Cls X.K (cl c)) (hn : NoAttr X.K (cl c) at_) (hb : plainBase e = true) (he : PE X e (tE X cl W fe)) :
    PE X (.Attribute e at_ pos) (tE X cl W fun ρ S => (fe ρ S).bind fun d S => if isIns c S d then optR (fieldOf S at_ d) S else .bad) := by
  refine (pe_fld he (base_plain hb)).imp fun σ H Q ⟨ρ, S, μ, F, B, r, h⟩ => stepE B r h fun x H1 d S1 μ1 B1 f1 r1 rd h1 => ?_
  split at h1
  · rename_i hi
    obtain ⟨a, dx, fs, rfl, ha, _, hf⟩ := ins_at B1 rd hi
    obtain ⟨q, e1, h2⟩ := Sat.opt h1
    obtain ⟨w, e2, rw'⟩ := hf at_ q e1
    exact ⟨a, cl c, dx, fs, w, rfl, ha, hc, hn, e2, h2 w μ1 H1 B1 Fra.refl rw'⟩
  · exact h1.elim
/-! ### methods -/
def methF (fz : Bool) (Fn : List Arg → LR) (d : D) (ds : List D) (S : Sto) : Res D := if fz then (frzL S (d :: ds)).bind fun ps S => callA Fn (ps.map .p) S else callA Fn (d :: ds) S
theorem meth_give {F μ : List Addr} {S : Sto} {H : Hp} {K : PySem.W.Frag} {W : XK} {d : D} {ds : List D} {v : V} {vs : List V} {Q : VK} (B : Bears K cl F μ H S) (r : RepD K cl μ (Gz F μ S H) d v) (rs : RepDL K cl μ (Gz F μ S H) ds vs)
    (h : Sat K cl F μ S H (RD K cl) (methF fz Fn d ds S) W Q) : spL K cl Fn (v :: vs) H Q W := by
  have rr : RepDL K cl μ (Gz F μ S H) (d :: ds) (v :: vs) := ⟨v, vs, rfl, r, rs⟩
  cases fz with
  | false => exact lift B rr h
  | true =>
    obtain ⟨qs, S2, e2, l2, B2, f2, r2, h2⟩ := Sat.frzL B rr h
    exact lift B2 (repDL_p r2) h2
theorem e_meth {c : Nat} {fo : List (Option D) → Sto → Res D} {g : List (Option D) → Sto → Res (List D)} (hc : Cls X.K (cl c)) (hmt : Meth X.K (cl c) m f) (F : FnOk X.prog X.w X.K X.mg X.base (L2.CX X.prog X.w) k f fd ps (spL X.K cl Fn)) (hr : Room k X.A) (hb : Binds X.K fd ps [])
    (tk : Takes X W) (hpb : plainBase o = true) (hs : (e :: es).all noStar = true) (hn : (e :: es).length < 30) (hl : (apos.endLine == pos.line) = true) (ho : PE X o (tE X cl W fo)) (ha : PA X (e :: es) (tA X cl W g)) :
    PE X (.Call (.Attribute o m apos) (e :: es) [] pos) (tE X cl W fun ρ S => (fo ρ S).bind fun d S => if isIns c S d && noAttr S m d then (g ρ S).bind fun ds S => methF fz Fn d ds S else .bad) := by
  refine ⟨fun pins s σ H Q I ⟨ρ, S, μ, Fh, B, r, h⟩ => ?_⟩
  refine PySem.W.methodCall_KW (thn (ho.run pins s σ H (fun x H1 => ∃ a dx fs, x = .ref a ∧ H1 a = some (.ins (cl c) dx fs) ∧ fs.lookup m = none ∧ tA X cl W g σ H1 fun vs H2 => spL X.K cl Fn (x :: vs) H2 Q (WS W σ)) I ?_) fun u s1 ⟨x, H1, I1, rx, a, dx, fs, ex, ea, l, q⟩ => ?_) (meth_eq hpb hs hn hl)
  · refine stepE B r h fun x H1 d S1 μ1 B1 f1 r1 rd h1 => ?_
    split at h1
    · rename_i hi
      rw [Bool.and_eq_true] at hi
      obtain ⟨a, dx, fs, rfl, ha', hno, _⟩ := ins_at B1 rd hi.1
      refine ⟨a, dx, fs, rfl, ha', hno m hi.2, stepA B1 r1 h1 fun xs H2 ds S2 μ2 B2 f2 r2 rds h2 => ?_⟩
      exact meth_give B2 (rd.mono f2.pre f2.gle) rds h2
    · exact h1.elim
  · subst ex
    obtain rfl : u = Value.ref a := rx
    refine getmeth_ok I1 ea hc hmt l ?_
    rw [List.all_cons, Bool.and_eq_true] at hs
    refine PySem.W.callWith_K (first := [.ref a]) (h₀ := X.base) I1.ok.mod.kin hmt.kp (thn (ha.run pos pins s1 σ H1 _ I1 q) fun us s2 ⟨vs, H2, I2, r, q2⟩ => ⟨I2.kIn, ?_⟩) (star_cons hs.1) (star_none hs.2)
    exact run_fnSD (dvs := []) (ds := []) (us := .ref a :: us) (vs := .ref a :: vs) (E := WS W) F hr hb .nil (passAt tk σ) I2 (.cons rfl r) (by rw [List.append_nil]; exact q2)
theorem e_meth0 {c : Nat} {fo : List (Option D) → Sto → Res D} (hc : Cls X.K (cl c)) (hmt : Meth X.K (cl c) m f) (F : FnOk X.prog X.w X.K X.mg X.base (L2.CX X.prog X.w) k f fd ps (spL X.K cl Fn)) (hr : Room k X.A) (hb : Binds X.K fd ps [])
    (tk : Takes X W) (hpb : plainBase o = true) (hl : (apos.endLine == pos.line) = true) (ho : PE X o (tE X cl W fo)) :
    PE X (.Call (.Attribute o m apos) [] [] pos) (tE X cl W fun ρ S => (fo ρ S).bind fun d S => if isIns c S d && noAttr S m d then (Res.ok ([] : List D) S).bind fun ds S => methF fz Fn d ds S else .bad) := by
  refine ⟨fun pins s σ H Q I ⟨ρ, S, μ, Fh, B, r, h⟩ => ?_⟩
  refine PySem.W.methodCall_KW (thn (ho.run pins s σ H (fun x H1 => ∃ a dx fs, x = .ref a ∧ H1 a = some (.ins (cl c) dx fs) ∧ fs.lookup m = none ∧ spL X.K cl Fn [x] H1 Q (WS W σ)) I ?_) fun u s1 ⟨x, H1, I1, rx, a, dx, fs, ex, ea, l, q⟩ => ?_) (meth_eq hpb rfl (by decide) hl)
  · refine stepE B r h fun x H1 d S1 μ1 B1 f1 r1 rd h1 => ?_
    split at h1
    · rename_i hi
      rw [Bool.and_eq_true] at hi
      obtain ⟨a, dx, fs, rfl, ha', hno, _⟩ := ins_at B1 rd hi.1
      exact ⟨a, dx, fs, rfl, ha', hno m hi.2, meth_give (ds := []) (vs := []) B1 rd rfl h1⟩
    · exact h1.elim
  · subst ex
    obtain rfl : u = Value.ref a := rx
    refine getmeth_ok I1 ea hc hmt l ?_
    exact PySem.W.callWith_K0 (first := [.ref a]) I1.kIn hmt.kp (run_fnSD (dvs := []) (ds := []) (us := [.ref a]) (vs := [.ref a]) (E := WS W) F hr hb .nil (passAt tk σ) I1 (.cons rfl .nil) (by rw [List.append_nil]; exact q))
/-! ### slices, get -/
abbrev RO : List Addr → Hp → Option Int → Option Int → Prop := fun _ _ a b => a = b
def tO (X : Cx) (cl : Nat → Addr) (W : WX) (f : List (Option D) → Sto → Res (Option Int)) : TO := fun σ H Q => ∃ ρ S μ F, Bears X.K cl F μ H S ∧ RepS X.K cl μ (Gz F μ S H) σ ρ ∧ Sat X.K cl F μ S H RO (f ρ S) (WS W σ) Q
theorem part_ok {o : Option Expr} {b : Bool} {fe : List (Option D) → Sto → Res D} (hb : b = o.isSome) (hl : ∀ a, o = some a → PE X a (tE X cl W fe)) (nl : o = none → ∀ ρ S, fe ρ S = .ok (.p .non) S) : PO X o (tO X cl W fun ρ S => (fe ρ S).bind fun e S => optR (partOf b e) S) := by
  cases o with
  | none =>
    refine ⟨fun pins s σ H Q I ⟨ρ, S, μ, F, B, r, h⟩ => po_none.run pins s σ H Q I ?_⟩
    dsimp only at h
    rw [nl rfl, hb] at h
    exact h none μ H B Fra.refl rfl
  | some a =>
    refine ⟨fun pins s σ H Q I ⟨ρ, S, μ, F, B, r, h⟩ => (po_some (hl a rfl)).run pins s σ H Q I (stepE B r h fun x H1 d S1 μ1 B1 f1 r1 rd h1 => ?_)⟩
    rw [hb] at h1
    obtain ⟨q, e, h1⟩ := Sat.opt h1
    cases d with
    | box n => cases e
    | p x =>
      cases x <;> first | (cases e; done) | skip
      cases e
      exact ⟨_, rd, h1 _ μ1 H1 B1 Fra.refl rfl⟩
theorem stepO {F μ : List Addr} {S : Sto} {H : Hp} {σ : L2.St} {ρ : List (Option D)} {α β : Type} {R : List Addr → Hp → α → β → Prop} {Qf : β → Hp → Prop} {f : List (Option D) → Sto → Res (Option Int)} {g : Option Int → Sto → Res α} {Q : Option Int → Hp → Prop} (B : Bears X.K cl F μ H S) (r : RepS X.K cl μ (Gz F μ S H) σ ρ) (h : Sat X.K cl F μ S H R ((f ρ S).bind g) (WS W σ) Qf)
    (k : ∀ b H1 S1 μ1, Bears X.K cl F μ1 H1 S1 → Fra μ S H μ1 S1 H1 → RepS X.K cl μ1 (Gz F μ1 S1 H1) σ ρ → Sat X.K cl F μ1 S1 H1 R (g b S1) (WS W σ) Qf → Q b H1) : tO X cl W f σ H Q :=
  ⟨ρ, S, μ, F, B, r, Sat.mono (Sat.bind (R' := RO) h) fun x H1 ⟨d, S1, μ1, B1, f1, r1, h1⟩ => by
    obtain rfl : d = x := r1
    exact k d H1 S1 μ1 B1 f1 (r.mono f1.pre f1.gle) h1⟩
theorem e_slice {lo hi : Option Expr} {p2 : Pos} {fo : List (Option D) → Sto → Res D} {fl fh : List (Option D) → Sto → Res (Option Int)} (ho : PE X o (tE X cl W fo)) (hl : PO X lo (tO X cl W fl)) (hh : PO X hi (tO X cl W fh)) :
    PE X (.Subscript o (.Slice lo hi none p2) pos) (tE X cl W fun ρ S => (fo ρ S).bind fun d S => (fl ρ S).bind fun l S => (fh ρ S).bind fun h S => optR ((view S d).bind fun x => (sliceP x l h).map .p) S) := by
  refine ⟨fun pins s σ H Q I w => (pe_slice (slice_ok (cl := cl) (W := WS W σ)) ho hl hh).run pins s σ H Q I ?_⟩
  obtain ⟨ρ, S, μ, F, B, r, h⟩ := w
  refine stepE B r h fun x H1 d S1 μ1 B1 f1 r1 rd h1 => stepO B1 r1 h1 fun l H2 S2 μ2 B2 f2 r2 h2 => stepO B2 r2 h2 fun u H3 S3 μ3 B3 f3 r3 h3 => ?_
  obtain ⟨d2, e2, h3⟩ := Sat.opt h3
  obtain ⟨p1, e3, e4⟩ := Option.bind_eq_some_iff.mp e2
  obtain ⟨z, e9, rfl⟩ := Option.map_eq_some_iff.mp e4
  exact ⟨F, μ3, S3, p1, z, B3, view_vw B3 ((rd.mono f2.pre f2.gle).mono f3.pre f3.gle) e3, e9, h3⟩
theorem isD_of {K : PySem.W.Frag} {G H : Hp} {p : P} {v : V} (h : Vw K cl G H p v) (e : isDict p = true) : ∃ a, v = .ref a ∧ IsD H a := by
  cases p <;> first | (cases e; done) | skip
  · obtain ⟨a, kvs, rfl, ha, _⟩ := h
    exact ⟨a, rfl, .inl ⟨kvs, ha⟩⟩
  · obtain ⟨a, kvs, rfl, ha, _⟩ := h
    exact ⟨a, rfl, .inr ⟨kvs, ha⟩⟩
theorem e_get {a b : Expr} {fa fb fc : List (Option D) → Sto → Res D} (hu : X.A.units + 66 < cLine) (hpb : plainBase o = true) (hs1 : noStar a = true) (hs2 : noStar b = true) (hl : (apos.endLine == pos.line) = true)
    (ho : PE X o (tE X cl W fa)) (ha : PE X a (tE X cl W fb)) (hb : PE X b (tE X cl W fc)) :
    PE X (.Call (.Attribute o "get" apos) [a, b] [] pos) (tE X cl W fun ρ S => (fa ρ S).bind fun d S => if ((view S d).map isDict) = some true then (fb ρ S).bind fun e S => (fc ρ S).bind fun g S =>
      match g with
      | .p z => optR ((view S d).bind fun x => (view S e).bind fun y => (getP x y z).map .p) S
      | .box _ => .bad
      else .bad) := by
  have hm : M2 X o "get" apos a b pos := by
    have hs : ([a, b] : List Expr).all noStar = true := by simp [hs1, hs2]
    refine ⟨base_plain hpb, ?_, hl, ?_⟩
    · rw [star_all hs]
      rfl
    · rw [star_cons hs1, star_cons hs2]
      rfl
  refine (pe_dget2 (by omega) ho ha hb hm).imp fun σ H Q ⟨ρ, S, μ, F, B, r, h⟩ => stepE B r h fun x H1 d S1 μ1 B1 f1 r1 rd h1 => ?_
  split at h1
  · rename_i hd
    obtain ⟨p0, e0, e1⟩ := Option.map_eq_some_iff.mp hd
    obtain ⟨ad, rfl, isd⟩ := isD_of (view_vw B1 rd e0) e1
    refine ⟨ad, rfl, isd, stepE B1 r1 h1 fun y H2 e S2 μ2 B2 f2 r2 re h2 => stepE B2 r2 h2 fun z H3 g S3 μ3 B3 f3 r3 rg h3 => ?_⟩
    cases g with
    | box n => exact h3.elim
    | p zz =>
      obtain ⟨d2, e2, h3⟩ := Sat.opt h3
      obtain ⟨p1, e3, e4⟩ := Option.bind_eq_some_iff.mp e2
      obtain ⟨q1, e5, e6⟩ := Option.bind_eq_some_iff.mp e4
      obtain ⟨w, e7, rfl⟩ := Option.map_eq_some_iff.mp e6
      have v1 := view_vw B3 ((rd.mono f2.pre f2.gle).mono f3.pre f3.gle) e3
      have v2 := view_vw B3 (re.mono f3.pre f3.gle) e5
      cases p1 <;> first | (cases e7; done) | skip
      · obtain ⟨kk, hk, e8⟩ := Option.map_eq_some_iff.mp e7
        obtain ⟨a2, kvs, e10, hkv, ek, rv⟩ := v1
        cases e10
        have hx := key_of hk v2
        subst hx
        have lv := look_val (x := kk) ek rv
        refine ⟨valV kvs kk, .inl ⟨kvs, kk, hkv, rfl, rfl⟩, ?_⟩
        cases hl2 : look _ _ kk with
        | none =>
          rw [hl2] at e8
          rw [lv.2 hl2]
          cases e8
          exact give B3 h3 rg
        | some t =>
          rw [hl2] at e8
          obtain ⟨w2, hw2, rw2⟩ := lv.1 t hl2
          rw [hw2]
          cases e8
          exact give B3 h3 rw2
      · obtain ⟨kk, hk, e8⟩ := Option.map_eq_some_iff.mp e7
        obtain ⟨a2, kvs, e10, hkv, ek, rv⟩ := v1
        cases e10
        cases q1 <;> first | (cases hk; done) | skip
        obtain ⟨c2, ys, rfl, hc2, rc2⟩ := v2
        have ec := keys_of hk rc2
        subst ec
        have lv := look_val (x := kk) ek rv
        refine ⟨valV kvs kk, .inr ⟨kvs, kk, c2, hkv, rfl, gz_gle.ex c2 (.tup _) trivial hc2, rfl⟩, ?_⟩
        cases hl2 : look _ _ kk with
        | none =>
          rw [hl2] at e8
          rw [lv.2 hl2]
          cases e8
          exact give B3 h3 rg
        | some t =>
          rw [hl2] at e8
          obtain ⟨w2, hw2, rw2⟩ := lv.1 t hl2
          rw [hw2]
          cases e8
          exact give B3 h3 rw2
  · exact h1.elim
end
end PD
/-! Own operators of instances: + * == != in len; constructors. -/
namespace PD
open PySem L2 PySem.Spec PyProof.Rows
section
variable {X : Cx} {cl : Nat → Addr} {W : WX} {k : Nat} {f C : Addr} {fd : FuncData} {ps : List Str} {dvs : List V} {ds' : List Value} {Fn : List Arg → LR} {x m : Str} {p pos apos : Pos} {e o a b : Expr} {es : List Expr} {dfl : List P} {fz : Bool}
  {fa fb : List (Option D) → Sto → Res D}
/-- a def called at A', all arguments given -/
theorem run_at {A' : Around} {sp : Sp} {pins : List (Addr × Obj)} {σ : L2.St} {H : Hp} {s : Shared} {Q : VK} {us : List Value} {vs : List V} (F : FnOk X.prog X.w X.K X.mg X.base (L2.CX X.prog X.w) k f fd ps sp) (hr : Room k A') (e0 : Env0 X.prog X.w X.K X.mg X.base A' X.stack s H) (hb : Binds X.K fd ps []) (tk : Takes X W)
    (I : Inv X pins σ H s) (r : Vals vs us) (h : sp vs H Q (WS W σ)) : wpAny (model X.prog X.w) A' (call (.ref f) us) (EP X pins σ Q) X.xe s := by
  have hl : us.length = ps.length := by rw [← r.length]; exact F.len _ _ _ _ h
  have hb2 := hb s us I.kIn (by rw [List.append_nil]; exact hl)
  rw [List.append_nil] at hb2
  refine wpAny_call (codeAny_mono (F.run A' X.stack s H ⟨us, []⟩ us vs Q (WS W σ) hr e0 hb2 r h) fun r s' hq => ?_)
  cases r with
  | error e => exact passAt tk σ pins H s e s' I hq
  | ok fl =>
    cases fl with
    | ret u => exact I.after hq
    | next => exact False.elim hq
    | brk => exact False.elim hq
    | cont => exact False.elim hq
theorem inst_at {pins : List (Addr × Obj)} {σ : L2.St} {H : Hp} {s : Shared} {a C dx : Addr} {fs : List (Str × V)} (I : Inv X pins σ H s) (e : H a = some (.ins C dx fs)) : ∃ ox od, PySem.W.InstAt s.heap a ox C od := by
  obtain ⟨mA, O, _⟩ := ins_get I.hok e
  obtain ⟨od, IA, _⟩ := O.look
  exact ⟨_, _, IA⟩
theorem cmpback {pins : List (Addr × Obj)} {σ : L2.St} {Q : VK} {v : Value} {s' : Shared} (h : EP X pins σ Q v s') : PySem.W.CmpBack (EP X pins σ Q) v s' := by
  cases v <;> first | exact h | skip
  obtain ⟨x, H, _, r, _⟩ := h
  cases x <;> first | (cases r; done) | (obtain ⟨_, h⟩ := r; cases h)
/-- two instances, then the def of both -/
def tTwo (K : PySem.W.Frag) (cl : Nat → Addr) (c : Nat) (Fn : List Arg → LR) (Q : VK) (E : XK) : V → V → Hp → Prop := fun x y H => ∃ ax dx fx ay dy fy, x = .ref ax ∧ H ax = some (.ins (cl c) dx fx) ∧ y = .ref ay ∧ H ay = some (.ins (cl c) dy fy) ∧ spL K cl Fn [x, y] H Q E
theorem two_ins {c : Nat} {σ : L2.St} {H : Hp} {ρ : List (Option D)} {S : Sto} {μ Fh : List Addr} {Q : VK} {g : D → Sto → Res D} {Q' : VK} (B : Bears X.K cl Fh μ H S) (r : RepS X.K cl μ (Gz Fh μ S H) σ ρ)
    (h : Sat X.K cl Fh μ S H (RD X.K cl) ((fa ρ S).bind fun d S => (fb ρ S).bind fun e S => if isIns c S d && isIns c S e then (callA Fn [d, e] S).bind g else .bad) (WS W σ) Q)
    (k : ∀ d S1 μ1 H1 v, Bears X.K cl Fh μ1 H1 S1 → RepD X.K cl μ1 (Gz Fh μ1 S1 H1) d v → Sat X.K cl Fh μ1 S1 H1 (RD X.K cl) (g d S1) (WS W σ) Q → Q' v H1) :
    tE X cl W fa σ H fun x H1 => tE X cl W fb σ H1 fun y H2 => tTwo X.K cl c Fn Q' (WS W σ) x y H2 := by
  refine stepE B r h fun x H1 d S1 μ1 B1 f1 r1 rd h1 => stepE B1 r1 h1 fun y H2 e S2 μ2 B2 f2 r2 re h2 => ?_
  split at h2
  · rename_i hi
    rw [Bool.and_eq_true] at hi
    have rd2 := rd.mono f2.pre f2.gle (cl := cl)
    obtain ⟨ax, dx, fx, rfl, hax, _⟩ := ins_at B2 rd2 hi.1
    obtain ⟨ay, dy, fy, rfl, hay, _⟩ := ins_at B2 re hi.2
    refine ⟨ax, dx, fx, ay, dy, fy, rfl, hax, rfl, hay, lift (ds := [d, e]) B2 ⟨_, _, rfl, rd2, _, _, rfl, re, rfl⟩ (Sat.mono (Sat.bind h2) fun v H3 ⟨d3, S3, μ3, B3, f3, r3, h3⟩ => ?_)⟩
    exact k d3 S3 μ3 H3 v B3 r3 h3
  · exact h2.elim
theorem bind_ok {α : Type} (r : Res α) : (r.bind fun a S => .ok a S) = r := by cases r <;> rfl
theorem e_own2 {op : Operator} {c : Nat} (hc : PySem.W.selfFirst X.K (cl c) = true) (hs : PySem.W.findIn X.K (.ref (cl c)) (PySem.dunder op.info.2) = some (some (.ref f))) (hf : PySem.W.isFn X.K (.ref f) = true)
    (F : FnOk X.prog X.w X.K X.mg X.base (L2.CX X.prog X.w) k f fd ps (spL X.K cl Fn)) (hr : Room k X.A) (hb : Binds X.K fd ps []) (tk : Takes X W) (ha : PE X a (tE X cl W fa)) (hb' : PE X b (tE X cl W fb)) :
    PE X (.BinOp a op b pos) (tE X cl W fun ρ S => (fa ρ S).bind fun d S => (fb ρ S).bind fun e S => if isIns c S d && isIns c S e then callA Fn [d, e] S else .bad) := by
  refine ⟨fun pins s σ H Q I ⟨ρ, S, μ, Fh, B, r, h⟩ => wpAny_BinOp (binT ha hb' I (R := tTwo X.K cl c Fn Q (WS W σ)) (two_ins (g := fun d S => .ok d S) B r (by simpa only [bind_ok] using h) fun d S1 μ1 H1 v B1 r1 h1 => h1 v μ1 H1 B1 Fra.refl r1) fun v u s2 x y H2 I2 rx ry q => ?_)⟩
  obtain ⟨ax, dx, fx, ay, dy, fy, rfl, hax, rfl, hay, q⟩ := q
  obtain rfl : v = Value.ref ax := rx
  obtain rfl : u = Value.ref ay := ry
  obtain ⟨m, Fr⟩ := I2.fr
  obtain ⟨_, _, IA⟩ := inst_at I2 hax
  obtain ⟨_, _, IB⟩ := inst_at I2 hay
  exact PySem.W.binop_K Fr I2.ok.mod.kin IA IB.type hc hs hf (thn (run_at (vs := [.ref ax, .ref ay]) F hr I2.env0 hb tk I2 (.cons rfl (.cons rfl .nil)) q) fun v s' hv => cmpback hv)
theorem c_eqI {c : Nat} (hu : X.A.units + 66 < cLine) (hs : PySem.W.findIn X.K (.ref (cl c)) (cmpInfo .Eq).2.1 = some (some (.ref f))) (hf : PySem.W.isFn X.K (.ref f) = true)
    (F : FnOk X.prog X.w X.K X.mg X.base (L2.CX X.prog X.w) k f fd ps (spL X.K cl Fn)) (hr : Room k X.A) (hb : Binds X.K fd ps []) (tk : Takes X W) (ha : PE X a (tE X cl W fa)) (hb' : PE X b (tE X cl W fb)) :
    PC X .Eq a b (tE X cl W fun ρ S => (fa ρ S).bind fun d S => (fb ρ S).bind fun e S => if isIns c S d && isIns c S e then callA Fn [d, e] S else .bad) := by
  refine ⟨fun pins s σ H Q I ⟨ρ, S, μ, Fh, B, r, h⟩ => binT ha hb' I (R := tTwo X.K cl c Fn Q (WS W σ)) (two_ins (g := fun d S => .ok d S) B r (by simpa only [bind_ok] using h) fun d S1 μ1 H1 v B1 r1 h1 => h1 v μ1 H1 B1 Fra.refl r1) fun v u s2 x y H2 I2 rx ry q => ?_⟩
  obtain ⟨ax, dx, fx, ay, dy, fy, rfl, hax, rfl, hay, q⟩ := q
  obtain rfl : v = Value.ref ax := rx
  obtain rfl : u = Value.ref ay := ry
  obtain ⟨m, Fr⟩ := I2.fr
  obtain ⟨_, _, IA⟩ := inst_at I2 hax
  obtain ⟨_, _, IB⟩ := inst_at I2 hay
  unfold compareOp
  exact PySem.W.cmp_K (by omega) Fr I2.ok.mod.kin IA IB.type (by unfold PySem.W.notFirst; simp) hs hf (thn (run_at (vs := [.ref ax, .ref ay]) F hr I2.env0 hb tk I2 (.cons rfl (.cons rfl .nil)) q) fun v s' hv => cmpback hv)
/-- x in o, o an instance -/
theorem c_isin {c : Nat} (hs : PySem.W.findIn X.K (.ref (cl c)) "__contains__" = some (some (.ref f))) (hf : PySem.W.isFn X.K (.ref f) = true)
    (F : FnOk X.prog X.w X.K X.mg X.base (L2.CX X.prog X.w) k f fd ps (spL X.K cl Fn)) (hr : Room k X.A) (hb : Binds X.K fd ps []) (tk : Takes X W) (ha : PE X a (tE X cl W fa)) (hb' : PE X b (tE X cl W fb)) :
    PC X .In a b (tE X cl W fun ρ S => (fa ρ S).bind fun d S => (fb ρ S).bind fun e S => if isIns c S e then (callA Fn [e, d] S).bind fun r S => match r with
        | .p (.bl b) => .ok (.p (.bl b)) S
        | _ => .bad
      else .bad) := by
  refine ⟨fun pins s σ H Q I ⟨ρ, S, μ, Fh, B, r, h⟩ => binT ha hb' I (R := fun x y H => ∃ ay dy fy, y = .ref ay ∧ H ay = some (.ins (cl c) dy fy) ∧ spL X.K cl Fn [y, x] H (fun v H => ∃ b, v = .bl b ∧ Q (.bl b) H) (WS W σ)) ?_ fun v u s2 x y H2 I2 rx ry q => ?_⟩
  · refine stepE B r h fun x H1 d S1 μ1 B1 f1 r1 rd h1 => stepE B1 r1 h1 fun y H2 e S2 μ2 B2 f2 r2 re h2 => ?_
    split at h2
    · rename_i hi
      have rd2 := rd.mono f2.pre f2.gle (cl := cl)
      obtain ⟨ay, dy, fy, rfl, hay, _⟩ := ins_at B2 re hi
      refine ⟨ay, dy, fy, rfl, hay, lift (ds := [e, d]) B2 ⟨_, _, rfl, re, _, _, rfl, rd2, rfl⟩ (Sat.mono (Sat.bind h2) fun v H3 ⟨d3, S3, μ3, B3, f3, r3, h3⟩ => ?_)⟩
      split at h3
      · obtain rfl := rep_bl r3
        exact ⟨_, rfl, give B3 h3 rfl⟩
      · exact h3.elim
    · exact h2.elim
  · obtain ⟨ay, dy, fy, rfl, hay, q⟩ := q
    obtain rfl : u = Value.ref ay := ry
    obtain ⟨m, Fr⟩ := I2.fr
    obtain ⟨_, _, IB⟩ := inst_at I2 hay
    refine PySem.W.in_K Fr I2.ok.mod.kin IB hs hf (thn (run_at (vs := [.ref ay, x]) F hr I2.env0 hb tk I2 (.cons rfl (.cons rx .nil)) q) fun w s' hv => ?_)
    obtain ⟨z, H3, I3, rz, b, e, q3⟩ := hv
    subst e
    cases rz
    exact wpAny_truthy_bool ⟨.bl b, H3, I3, rfl, q3⟩
/-- len(o), o an instance -/
theorem e_own1 {c : Nat} (hs : PySem.W.findIn X.K (.ref (cl c)) "__len__" = some (some (.ref f))) (hf : PySem.W.isFn X.K (.ref f) = true)
    (F : FnOk X.prog X.w X.K X.mg X.base (L2.CX X.prog X.w) k f fd ps (spL X.K cl Fn)) (hr : Room (k + 1) X.A) (hb : Binds X.K fd ps []) (tk : Takes X W) (hg : Gl X x) (hm : X.mg x = none) (hv : bootBuiltins x = some (.builtin "len")) (hn : x ≠ "__name__") (hd : (x == ("__debug__" : Str)) = false)
    (hst : noStar a = true) (ha : PE X a (tE X cl W fa)) :
    PE X (.Call (.Name x p) [a] [] pos) (tE X cl W fun ρ S => (fa ρ S).bind fun d S => if isIns c S d then (callA Fn [d] S).bind fun r S => match r with
        | .p (.int n) => if 0 ≤ n ∧ n < 2 ^ 63 then .ok (.p (.int n)) S else .bad
        | _ => .bad
      else .bad) := by
  refine ⟨fun pins s σ H Q I ⟨ρ, S, μ, Fh, B, r, h⟩ => wpAny_Call_Name_kw (ld_blt I hg hm hv ?_ hn hd)⟩
  refine PyProof.Rows.callWith_builtin1 (thn ((pa_cons ha pa_nil (star_cons hst)).run pos pins s σ H (fun xs H => ∃ ay dy fy, xs = [.ref ay] ∧ H ay = some (.ins (cl c) dy fy) ∧ spL X.K cl Fn [.ref ay] H (fun v H => ∃ n : Int, v = .int n ∧ (0 ≤ n ∧ n < 2 ^ 63) ∧ Q (.int n) H) (WS W σ)) I ?_) fun us s1 ⟨vs, H1, I1, r1, ay, dy, fy, e1, hay, q⟩ => ?_) (star_cons hst) rfl
  · refine stepE B r h fun x H1 d S1 μ1 B1 f1 r1 rd h1 => ?_
    split at h1
    · rename_i hi
      obtain ⟨ay, dy, fy, rfl, hay, _⟩ := ins_at B1 rd hi
      refine ⟨ay, dy, fy, rfl, hay, lift (ds := [d]) B1 ⟨_, _, rfl, rd, rfl⟩ (Sat.mono (Sat.bind h1) fun v H3 ⟨d3, S3, μ3, B3, f3, r3, h3⟩ => ?_)⟩
      split at h3
      · split at h3
        · rename_i hh
          exact ⟨_, r3, hh, give B3 h3 rfl⟩
        · exact h3.elim
      · exact h3.elim
    · exact h1.elim
  · subst e1
    obtain ⟨u, rfl, ru⟩ := vals1 r1
    obtain rfl : u = Value.ref ay := ru
    obtain ⟨m, Fr⟩ := I1.fr
    obtain ⟨_, _, IB⟩ := inst_at I1 hay
    refine PySem.W.len_K Fr I1.ok.mod.kin IB hs hf (thn (run_at (vs := [.ref ay]) F hr.in1 I1.env0.in1 hb tk I1 (.cons rfl .nil) q) fun w s' hv => ?_)
    obtain ⟨z, H3, I3, rz, n, e, hh, q3⟩ := hv
    subst e
    obtain ⟨t, rfl⟩ := rz
    exact ⟨hh, .int n, H3, I3.tok _, ⟨_, rfl⟩, q3⟩
/-! ### != by object's -/
theorem ne_bind (self : Value) : bindSpecial (.builtin "object.__ne__") self = pure (.builtin "object.__ne__", [self]) :=
  (Slot.of (T := "object") (name := "__ne__") (owner := "object") (n := "__ne__") (by rw [typeLookup_type, builtinLookup_eq_fast]; kernel_rfl) (by decide +kernel) (by decide +kernel) (by decide +kernel)
    (.inl (by decide +kernel)) (by rw [isSubtype_type]; kernel_rfl)).bind self
theorem ne_plain : plainId "object.__ne__" = true := by decide +kernel
theorem ifBound_B {M : Model} {A : Around} {E : Value → Shared → Prop} {s : Shared} {K : PySem.W.Frag} {x C : Addr} {ox : Obj} {od : Option Obj} {id : String} {name : Str} {args : List Value} {Q : Option Value → Shared → Prop} (X : K.In s.heap) (I : PySem.W.InstAt s.heap x ox C od)
    (hs : PySem.W.findIn K (.ref C) name = some (some (.builtin id))) (hb : ∀ self, bindSpecial (.builtin id) self = pure (.builtin id, [self]))
    (h : wpAny M A (call (.builtin id) (.ref x :: args)) (fun v => Q (some v)) E s) : wpAny M A (callSpecialIfBound? (.ref x) name args) Q E s := by
  simp only [callSpecialIfBound?, bindSpecialIfBound?]
  refine wpAny_holding (wpAny_bind (wpAny_bind (wpAny_bind (I.type.here ((PySem.W.looks_findIn X hs).here ?_)))))
  refine wpAny_bind (wpAny_askSetting (wpAny_ite ?_))
  have fin : wpAny M A (call (.builtin id) ([.ref x] ++ args) >>= fun v => pure (some v)) Q E s := wpAny_bind (wpAny_mono h (fun v s' h' => wpAny_pure h') fun _ _ h' => h')
  split
  · exact wpAny_bind ((PySem.W.Looks.of_pure (hb _)).here (wpAny_pure (by exact fin)))
  · exact wpAny_tryCatch (wpAny_bind ((PySem.W.Looks.of_pure (hb _)).here (wpAny_pure (by exact fin))))
theorem objNe_K {prog : Program} {w : World} {A : Around} {E : Value → Shared → Prop} {s : Shared} {K : PySem.W.Frag} {x y C f : Addr} {ox : Obj} {od : Option Obj} {Q : Fin → Shared → Prop} (hu : A.units < cLine) (X : K.In s.heap) (I : PySem.W.InstAt s.heap x ox C od)
    (hs : PySem.W.findIn K (.ref C) "__eq__" = some (some (.ref f))) (hf : PySem.W.isFn K (.ref f) = true)
    (hcall : wpAny (model prog w) A (call (.ref f) [.ref x, .ref y]) (fun v s' => ∃ b, v = .bool b ∧ Q (.done (.ret (.bool (!b)))) s') E s) :
    wpAny (model prog w) A (Builtin.«object.__ne__» ⟨[.ref x, .ref y], []⟩) Q E s := by
  unfold Builtin.«object.__ne__»
  repeat (first
    | with_reducible refine wpAny_cRoomFor hu ?_
    | (refine wpAny_bind (m := callSpecialIfBound? (.ref x) (Str.ofString "__eq__") [.ref y])
        (PySem.W.ifBound_K X I hs hf (wpAny_mono hcall (fun r s' hr => by
          obtain ⟨b, rfl, hq⟩ := hr
          repeat (first | exact hq | exact wpAny_pure hq | exact wpAny_truthy_bool hq | (refine wpAny_bind (m := truthy (.bool _)) (wpAny_truthy_bool ?_)) | wp_step)) fun _ _ e => e)))
    | wp_step)
theorem ne_K {prog : Program} {w : World} {A : Around} {E : Value → Shared → Prop} {s : Shared} {K : PySem.W.Frag} {x y C f L : Addr} {h₀ : Heap} {m : Str → Option Value} {ox oy : Obj} {od od' : Option Obj} {Q : Value → Shared → Prop} (hu : A.units + 1 < cLine) (F : Fr h₀ L s.heap m) (X₀ : K.In h₀) (I : PySem.W.InstAt s.heap x ox C od) (I' : PySem.W.InstAt s.heap y oy C od')
    (hn : PySem.W.findIn K (.ref C) "__ne__" = some (some (.builtin "object.__ne__"))) (hs : PySem.W.findIn K (.ref C) "__eq__" = some (some (.ref f))) (hf : PySem.W.isFn K (.ref f) = true) (ho : PySem.W.mroIn K C (.type "object") = some true)
    (hcall : wpAny (model prog w) A.in1 (call (.ref f) [.ref x, .ref y]) (fun v s' => ∃ b, v = .bool b ∧ Q (.bool (!b)) s') E s) :
    wpAny (model prog w) A (richCompare .NotEq (.ref x) (.ref y)) Q E s := by
  have X := X₀.keeps F.keep
  have t2 : PySem.W.Looks (model prog w) s.heap (isInstance (.ref x) (.type "object")) true := I.type.andThen (PySem.W.looks_mroIn X ho)
  have inner : wpAny (model prog w) A (call (.builtin "object.__ne__") [.ref x, .ref y]) (fun v s' => ∃ b, v = .bool b ∧ Q v s') E s := by
    refine wpAny_call (codeAny_call_builtin ne_plain PySem.F.cmpEntry_ne (PySem.W.check_slot PySem.F.cmpKind_ne PySem.F.cmpSplit_ne t2 (PySem.F.cmpArgs_ne _ _) (objNe_K (A := A.in1) hu X I hs hf (wpAny_mono hcall (fun v s' hv => ?_) fun _ _ e => e))))
    obtain ⟨b, rfl, hq⟩ := hv
    exact ⟨b, rfl, _, rfl, hq⟩
  unfold richCompare
  simp only [oneThing_ref]
  refine wpAny_holding (wpAny_bind (wpAny_cRoomFor (Nat.lt_of_succ_lt hu) ?_))
  refine wpAny_bind (I.type.here (wpAny_bind (I'.type.here ?_)))
  rw [if_neg (by simp)]
  refine wpAny_bind (wpAny_pure ?_)
  simp only [Bool.false_eq_true, if_false]
  refine wpAny_bind (m := tryCompare (.ref x) "__ne__" (.ref y)) ?_
  simp only [tryCompare]
  refine wpAny_bind (ifBound_B X I hn ne_bind (wpAny_mono inner (fun v s' hv => ?_) fun _ _ e => e))
  obtain ⟨b, rfl, hv⟩ := hv
  exact wpAny_pure (wpAny_pure hv)
theorem c_ne {c : Nat} (hu : X.A.units + 66 < cLine) (hn : PySem.W.findIn X.K (.ref (cl c)) "__ne__" = some (some (.builtin "object.__ne__"))) (ho : PySem.W.mroIn X.K (cl c) (.type "object") = some true) (hs : PySem.W.findIn X.K (.ref (cl c)) "__eq__" = some (some (.ref f))) (hf : PySem.W.isFn X.K (.ref f) = true)
    (F : FnOk X.prog X.w X.K X.mg X.base (L2.CX X.prog X.w) k f fd ps (spL X.K cl Fn)) (hr : Room (k + 1) X.A) (hb : Binds X.K fd ps []) (tk : Takes X W) (ha : PE X a (tE X cl W fa)) (hb' : PE X b (tE X cl W fb)) :
    PC X .NotEq a b (tE X cl W fun ρ S => (fa ρ S).bind fun d S => (fb ρ S).bind fun e S => if isIns c S d && isIns c S e then (callA Fn [d, e] S).bind fun r S => match r with
        | .p (.bl b) => .ok (.p (.bl (!b))) S
        | _ => .bad
      else .bad) := by
  refine ⟨fun pins s σ H Q I ⟨ρ, S, μ, Fh, B, r, h⟩ => binT ha hb' I (R := tTwo X.K cl c Fn (fun v H => ∃ b : Bool, v = .bl b ∧ Q (.bl (!b)) H) (WS W σ)) (two_ins B r h fun d S1 μ1 H1 v B1 r1 h1 => ?_) fun v u s2 x y H2 I2 rx ry q => ?_⟩
  · split at h1
    · obtain rfl := rep_bl r1
      exact ⟨_, rfl, give B1 h1 rfl⟩
    · exact h1.elim
  obtain ⟨ax, dx, fx, ay, dy, fy, rfl, hax, rfl, hay, q⟩ := q
  obtain rfl : v = Value.ref ax := rx
  obtain rfl : u = Value.ref ay := ry
  obtain ⟨m, Fr⟩ := I2.fr
  obtain ⟨_, _, IA⟩ := inst_at I2 hax
  obtain ⟨_, _, IB⟩ := inst_at I2 hay
  unfold compareOp
  refine ne_K (by omega) Fr I2.ok.mod.kin IA IB hn hs hf ho (thn (run_at (vs := [.ref ax, .ref ay]) F hr.in1 I2.env0.in1 hb tk I2 (.cons rfl (.cons rfl .nil)) q) fun v s' hv => ?_)
  obtain ⟨z, H3, I3, rz, b, e, q3⟩ := hv
  subst e
  cases rz
  exact ⟨b, rfl, .bl (!b), H3, I3, rfl, q3⟩
/-! ### constructors -/
theorem RepDL.low {K : PySem.W.Frag} {μ : List Addr} {x : Addr} {G0 G : Hp} : ∀ {vs : List D} {xs0 xs : List V}, RepDL K cl μ G0 vs xs0 → RepDL K cl (μ ++ [x]) G vs xs → RepDL K cl μ G vs xs
  | [], _, _, _, h => h
  | .p y :: vs, _, _, ⟨_, _, _, _, h0⟩, ⟨v, r, e, h, t⟩ => ⟨v, r, e, h, RepDL.low h0 t⟩
  | .box n :: vs, _, _, ⟨_, _, _, ⟨b, _, hb⟩, h0⟩, ⟨v, r, e, ⟨a, e2, h⟩, t⟩ => by
    rw [List.getElem?_append_left (List.getElem?_eq_some_iff.mp hb).1] at h
    exact ⟨v, r, e, ⟨a, e2, h⟩, RepDL.low h0 t⟩
/-- the last box is let go -/
theorem Bears.cut {K : PySem.W.Frag} {F μ : List Addr} {a : Addr} {S : Sto} {o : Option O} {H0 H : Hp} (B0 : Bears K cl F μ H0 S) (B : Bears K cl F (μ ++ [a]) H (S ++ [o])) : Bears K cl F μ H S ∧ Gle (Gz F (μ ++ [a]) (S ++ [o]) H) (Gz F μ S H) := by
  have gl : Gle (Gz F (μ ++ [a]) (S ++ [o]) H) (Gz F μ S H) := Gle.of fun b u h => by
    obtain ⟨h1, h2, h3⟩ := gz_some h
    rw [gz_of (fun ⟨n, x, e1, e2⟩ => h1 ⟨n, x, pre_get (List.prefix_append _ _) e1, pre_get (List.prefix_append _ _) e2⟩) h2]
    exact h3
  have nd := B.nd
  rw [List.nodup_append] at nd
  refine ⟨⟨B0.len, nd.1, fun n b ob h1 h2 => ?_, fun n b hn => B.dom n b (pre_get (List.prefix_append _ _) hn), fun n b hn => B.nf n b (pre_get (List.prefix_append _ _) hn), B.hd⟩, gl⟩
  have q := B.obj n b ob (pre_get (List.prefix_append _ _) h1) (pre_get (List.prefix_append _ _) h2)
  have q0 := B0.obj n b ob h1 h2
  cases ob with
  | lst l => obtain ⟨xs, e, r⟩ := q; exact ⟨xs, e, RepL.mono gl l xs r⟩
  | dk ks vs => obtain ⟨kvs, e, kk, r⟩ := q; exact ⟨kvs, e, kk, RepL.mono gl vs _ r⟩
  | dt ks vs => obtain ⟨kvs, e, kk, r⟩ := q; exact ⟨kvs, e, kk, RepL.mono gl vs _ r⟩
  | ins c ns vs =>
    obtain ⟨dx, ys, e, kk, r⟩ := q
    obtain ⟨_, _, _, _, r0⟩ := q0
    exact ⟨dx, ys, e, kk, RepDL.low r0 (RepDL.mono (List.prefix_refl _) gl r)⟩
theorem args_p {S : Sto} : ∀ (ps : List P), toArgs S (ps.map .p) = some (ps.map .p, [])
  | [] => rfl
  | p :: ps => by
    show (toArgs S (ps.map .p)).map _ = _
    rw [args_p ps]
    rfl
theorem boxes_p : ∀ (ps : List P), boxesA (ps.map .p) = []
  | [] => rfl
  | _ :: ps => boxes_p ps
theorem callA_mk {Fn : List Arg → LR} {c : Nat} {qs : List P} {S : Sto} : callA Fn (.box S.length :: qs.map .p) (S ++ [some (.ins c [] [])]) = (match Fn (.o (.ins c [] []) :: qs.map .p) with
      | .ok (.p r) os => if os.length = 1 ∧ os.all O.pure = true then .ok (.p r) (setOuts (S ++ [some (.ins c [] [])]) [S.length] os) else .bad
      | .ok (.o o) os => if os.length = 1 ∧ os.all O.pure = true ∧ o.pure = true then .ok (.box (S ++ [some (O.ins c [] [])]).length) (setOuts (S ++ [some (.ins c [] [])]) [S.length] os ++ [some o]) else .bad
      | .rse c' xs vs os => if os.length = 1 ∧ os.all O.pure = true then .rse c' xs vs (setOuts (S ++ [some (.ins c [] [])]) [S.length] os) else .bad
      | .bad => .bad) := by
  have e : toArgs (S ++ [some (.ins c [] [])]) (.box S.length :: qs.map .p) = some (.o (.ins c [] []) :: qs.map .p, [S.length]) := by
    simp only [toArgs]
    rw [List.getElem?_append_right (Nat.le_refl _)]
    simp [args_p]
  unfold callA
  rw [e]
  dsimp only
  rw [if_pos ⟨by simp, by show (some (O.ins c [] []) :: boxesA (qs.map .p)).all purO = true; rw [boxes_p]; rfl⟩]
  rfl
theorem mk_give {K : PySem.W.Frag} {F μ : List Addr} {S : Sto} {H : Hp} {W : XK} {c : Nat} {qs : List P} {vs : List V} {Q : VK} {x dx : Addr} (B : Bears K cl F μ H S) (r : RepL K cl (Gz F μ S H) qs vs) (h : Sat K cl F μ S H (RD K cl) (mkF fz c Fn qs S) W Q)
    (hx : H x = none) (hdx : H dx = none) (ne : dx ≠ x) : spL K cl Fn (.ref x :: vs) (upd (upd H dx (.own x)) x (.ins (cl c) dx [])) (fun v H2 => v = .non ∧ Q (.ref x) H2) W := by
  obtain ⟨B1, f1⟩ := B.fresh (o := .own x) hdx
  have hx1 : (upd H dx (.own x)) x = none := by rw [upd_ne (Ne.symm ne)]; exact hx
  obtain ⟨B2, f2⟩ := B1.boxed (a := x) (o := .ins c [] []) (H' := upd (upd H dx (.own x)) x (.ins (cl c) dx [])) (upd_keep hx1) hx1 (by rw [upd_same]; exact fun z => by cases z) (fun z => B1.hd x z hx1) ⟨dx, [], upd_same, rfl, rfl⟩
  have f12 := f1.trans f2
  refine lift (ds := .box S.length :: qs.map .p) B2 ⟨.ref x, vs, rfl, ⟨x, rfl, by rw [← B.len]; simp⟩, repDL_p (RepL.mono f12.gle _ _ r)⟩ ?_
  rw [callA_mk]
  have so1 : ∀ o : O, setOuts (S ++ [some (.ins c [] [])]) [S.length] [o] = S ++ [some o] := fun o => by
    show (S ++ [some (O.ins c [] [])]).set S.length (some o) = _
    rw [List.set_append_right _ _ (Nat.le_refl _)]
    simp
  have two : ∀ {μ3 : List Addr} {o : O} {H3 : Hp}, Bears K cl F μ3 H3 (S ++ [some o]) → Fra (μ ++ [x]) (S ++ [some (.ins c [] [])]) (upd (upd H dx (.own x)) x (.ins (cl c) dx [])) μ3 (S ++ [some o]) H3 → μ3 = μ ++ [x] := fun B3 f3 => pre_len f3.pre (by rw [B3.len]; simp [B.len])
  have fS : ∀ {o : Option O} {H3 : Hp}, Fra (μ ++ [x]) (S ++ [some (.ins c [] [])]) (upd (upd H dx (.own x)) x (.ins (cl c) dx [])) (μ ++ [x]) (S ++ [o]) H3 → Fra μ S H μ S H3 := fun f3 =>
    ⟨List.prefix_refl _, fun a u h1 h2 => ⟨((f12.trans f3).keep a u h1 h2).1, h1⟩, (f12.trans f3).dom⟩
  cases hF : Fn (.o (.ins c [] []) :: qs.map .p) with
  | bad => simp only [mkF, hF] at h; exact h.elim
  | rse c' xs ws os =>
    simp only [mkF, hF] at h
    rcases os with _ | ⟨o, _ | ⟨o2, os⟩⟩
    · exact h.elim
    · simp only at h
      split at h
      · rename_i hp
        dsimp only
        rw [if_pos ⟨rfl, by simpa using hp⟩, so1]
        intro dd μ3 H3 B3 f3 rx
        obtain rfl := two B3 f3
        obtain ⟨B4, gl⟩ := Bears.cut B B3
        exact h dd μ H3 B4 (fS f3) (rx.elim .inl fun ⟨d, fs, e1, e2, e3, e4⟩ => .inr ⟨d, fs, e1, e2, e3, RepL.mono gl _ _ e4⟩)
      · exact h.elim
    · exact h.elim
  | ok ra os =>
    simp only [mkF, hF] at h
    cases ra with
    | o o => exact h.elim
    | p y =>
      cases y <;> first | exact h.elim | skip
      rcases os with _ | ⟨o, _ | ⟨o2, os⟩⟩
      · exact h.elim
      · simp only at h
        split at h
        · rename_i hp
          dsimp only
          rw [if_pos ⟨rfl, by simpa using hp⟩, so1]
          intro v μ3 H3 B3 f3 rv
          obtain rfl := two B3 f3
          refine ⟨rv, ?_⟩
          cases fz with
          | false => exact h (.ref x) (μ ++ [x]) H3 B3 (f12.trans f3) ⟨x, rfl, by rw [← B.len]; simp⟩
          | true =>
            obtain ⟨p, e, h2⟩ := Sat.opt h
            obtain ⟨q, hc, rfl⟩ := Option.map_eq_some_iff.mp e
            obtain ⟨B4, f4, r4⟩ := B3.freeze (n := S.length) (a := x) (o := o) (p := q) (by rw [← B.len]; simp) (by simp) hc
            have e5 : (S ++ [some o]).set S.length none = S ++ [none] := by
              rw [List.set_append_right _ _ (Nat.le_refl _)]
              simp
            rw [e5] at B4 f4 r4
            obtain ⟨B5, gl⟩ := Bears.cut B B4
            exact h2 (.ref x) μ H3 B5 (fS (f3.trans f4)) (Rep.mono gl _ _ r4)
        · exact h.elim
      · exact h.elim
theorem run_makeSD {pins : List (Addr × Obj)} {σ : L2.St} {H : Hp} {s : Shared} {Q : VK} {us : List Value} {vs : List V} {sp : Sp} (M : Mk X.K C f) (F : FnOk X.prog X.w X.K X.mg X.base (L2.CX X.prog X.w) k f fd ps sp) (hr : Room (k + 1) X.A) (hb : Binds X.K fd ps ds') (hd : Vals dvs ds')
    (tk : Takes X W) (I : Inv X pins σ H s) (r : Vals vs us)
    (h : ∀ x dx, H x = none → H dx = none → dx ≠ x → sp (.ref x :: (vs ++ dvs)) (upd (upd H dx (.own x)) x (.ins C dx [])) (fun v H2 => v = .non ∧ Q (.ref x) H2) (WS W σ)) :
    wpAny (model X.prog X.w) X.A (call (.ref C) us) (EP X pins σ Q) X.xe s := by
  have hq := h (s.heap.objs.size + 1) s.heap.objs.size (I.hok.fresh (Nat.le_succ _)) (I.hok.fresh (Nat.le_refl _)) (Nat.ne_of_lt (Nat.lt_succ_self _))
  have I2 := Inv.made (C := C) I
  have r2 : Vals (V.ref (s.heap.objs.size + 1) :: (vs ++ dvs)) (Value.ref (s.heap.objs.size + 1) :: (us ++ ds')) := .cons rfl (r.append hd)
  have hl : (Value.ref (s.heap.objs.size + 1) :: us ++ ds').length = ps.length := by
    have e := r2.length
    rw [F.len _ _ _ _ hq] at e
    exact e.symm
  refine wpAny_call (make_map (f := f) I.kIn M.makes M.init (beq_iff_eq.mp M.fn) (codeAny_mono (F.run _ X.stack _ _ ⟨Value.ref (s.heap.objs.size + 1) :: us, []⟩ (Value.ref (s.heap.objs.size + 1) :: (us ++ ds')) _ _ (WS W σ) (hr.make C us [])
    (I2.env0.make C us []) (hb _ (Value.ref (s.heap.objs.size + 1) :: us) I2.kIn hl) r2 hq) fun r s' hq' => ?_))
  cases r with
  | error e => exact passAt tk σ pins _ _ e s' I2 hq'
  | ok fl =>
    cases fl with
    | ret u =>
      obtain ⟨v, H', I3, rv, ev, q3⟩ := I2.after hq'
      subst ev
      exact ⟨rv, ⟨V.ref (s.heap.objs.size + 1), H', I3, rfl, q3⟩⟩
    | next => exact False.elim hq'
    | brk => exact False.elim hq'
    | cont => exact False.elim hq'
theorem e_mk {g : List (Option D) → Sto → Res (List D)} {c : Nat} (M : Mk X.K (cl c) f) (F : FnOk X.prog X.w X.K X.mg X.base (L2.CX X.prog X.w) k f fd ps (spL X.K cl Fn)) (hr : Room (k + 1) X.A) (hg : Gl X x) (hm : X.mg x = some (.ref (cl c))) (hb : Binds X.K fd ps ds') (hd : Vals dvs ds')
    (hdr : ∀ G, RepL X.K cl G dfl dvs) (tk : Takes X W) (hdb : (x == ("__debug__" : Str)) = false) (hs : (e :: es).all noStar = true) (ha : PA X (e :: es) (tA X cl W g)) :
    PE X (.Call (.Name x p) (e :: es) [] pos) (tE X cl W fun ρ S => (g ρ S).bind fun ds S => (frzL S ds).bind fun ps S => mkF fz c Fn (ps ++ dfl) S) := by
  have hs' := hs
  rw [List.all_cons, Bool.and_eq_true] at hs'
  refine ⟨fun pins s σ H Q I ⟨ρ, S, μ, Fh, B, r, h⟩ => wpAny_Call_Name_kw (ld_glob I hg hm ?_ hdb)⟩
  refine PySem.W.callWith_K (h₀ := X.base) I.ok.mod.kin M.kp (thn (ha.run pos pins s σ H (fun vs H1 => ∀ x dx, H1 x = none → H1 dx = none → dx ≠ x → spL X.K cl Fn (.ref x :: (vs ++ dvs)) (upd (upd H1 dx (.own x)) x (.ins (cl c) dx [])) (fun v H2 => v = .non ∧ Q (.ref x) H2) (WS W σ)) I ?_) fun us s1 ⟨vs, H1, I1, r, q⟩ => ⟨I1.kIn, ?_⟩) (star_cons hs'.1) (star_none hs'.2)
  · refine stepA B r h fun xs H1 ds S1 μ1 B1 f1 r1 rds h1 => ?_
    obtain ⟨ps, S2, e2, l2, B2, f2, r2, h2⟩ := Sat.frzL B1 rds h1
    exact fun x dx hx hdx ne => mk_give B2 (r2.app (hdr _)) h2 hx hdx ne
  · exact run_makeSD M F hr hb hd tk I1 r q
theorem e_mk0 {c : Nat} (M : Mk X.K (cl c) f) (F : FnOk X.prog X.w X.K X.mg X.base (L2.CX X.prog X.w) k f fd ps (spL X.K cl Fn)) (hr : Room (k + 1) X.A) (hg : Gl X x) (hm : X.mg x = some (.ref (cl c))) (hb : Binds X.K fd ps ds') (hd : Vals dvs ds')
    (hdr : ∀ G, RepL X.K cl G dfl dvs) (tk : Takes X W) (hdb : (x == ("__debug__" : Str)) = false) :
    PE X (.Call (.Name x p) [] [] pos) (tE X cl W fun ρ S => (Res.ok ([] : List D) S).bind fun ds S => (frzL S ds).bind fun ps S => mkF fz c Fn (ps ++ dfl) S) := by
  refine ⟨fun pins s σ H Q I ⟨ρ, S, μ, Fh, B, r, h⟩ => wpAny_Call_Name_kw (ld_glob I hg hm ?_ hdb)⟩
  exact PySem.W.callWith_K0 I.kIn M.kp (run_makeSD (us := []) (vs := []) M F hr hb hd tk I .nil fun x dx hx hdx ne => mk_give (qs := dfl) B (hdr _) h hx hdx ne)
end
end PD
/-! Tests; all, any, [::-1], isinstance, list(d.items()). -/
namespace PD
open PySem L2 PySem.Spec PyProof.Rows
section
variable {X : Cx} {cl : Nat → Addr} {W : WX}
/-! ### tests -/
def tTru (X : Cx) (t : TE) : TT := fun σ H Q => t σ H fun x H1 => ∃ k, TruV X.K x H1 k ∧ Q k H1
theorem pt_plain {e : Expr} {t : TE} (h : PE X e t) (hp : plainTest e = true) : PT X e (tTru X t) := by
  refine ⟨fun pins s σ H Q I hw => ?_⟩
  refine isTrue_plain (thn (h.run pins s σ H _ I hw) fun v s1 ⟨x, H1, I1, r1, q1⟩ => ?_) (test_plain hp _)
  exact tru_ok pins s1 σ H1 x v Q I1 r1 q1
theorem pt_cmp1 {op : CmpOp} {a b : Expr} {pos : Pos} {t : TE} (h : PC X op a b t) (h1 : behindInMarks op b = false) : PT X (.Compare a [op] [b] pos) (tTru X t) := by
  refine ⟨fun pins s σ H Q I hw => ?_⟩
  refine wpAny_isTrue_Compare1 (thn (h.run pins s σ H _ I hw) fun v s1 h1 => thn h1 fun u s2 h2 => thn h2 fun c s3 ⟨x, H1, I1, r1, q1⟩ => ?_) h1
  exact tru_ok pins s3 σ H1 x c Q I1 r1 q1
theorem t_tru {e : Expr} {f : List (Option D) → Sto → Res D} (h : PT X e (tTru X (tE X cl W f))) : PT X e (tT X cl W fun ρ S => (f ρ S).bind fun d S => optR ((view S d).bind truth) S) := by
  refine h.imp fun σ H Q ⟨ρ, S, μ, F, B, r, h⟩ => stepE B r h fun x H1 d S1 μ1 B1 f1 r1 rd h1 => ?_
  obtain ⟨b, e2, h2⟩ := Sat.opt h1
  obtain ⟨p, e3, e4⟩ := Option.bind_eq_some_iff.mp e2
  exact ⟨b, truth_ok gz_gle (view_vw B1 rd e3) e4, h2 b μ1 H1 B1 Fra.refl rfl⟩
theorem t_not {a : Expr} {pos : Pos} {f : List (Option D) → Sto → Res Bool} (h : PT X a (tT X cl W f)) : PT X (.UnaryOp .Not a pos) (tT X cl W fun ρ S => (f ρ S).bind fun b S => .ok (!b) S) := by
  refine (pt_not h).imp fun σ H Q ⟨ρ, S, μ, F, B, r, h⟩ => stepT B r h fun b H1 S1 μ1 B1 f1 r1 h1 => ?_
  exact h1 (!b) μ1 H1 B1 Fra.refl rfl
theorem t_and {a b : Expr} {r : List Expr} {pos : Pos} {f g : List (Option D) → Sto → Res Bool} (ha : PT X a (tT X cl W f)) (hb : PW X (.BoolOp .And (b :: r) pos) (tT X cl W g)) :
    PW X (.BoolOp .And (a :: b :: r) pos) (tT X cl W fun ρ S => (f ρ S).bind fun b S => if b then g ρ S else .ok false S) := by
  refine (pw_and ha hb).imp fun σ H Q ⟨ρ, S, μ, F, B, r, h⟩ => stepT B r h fun b H1 S1 μ1 B1 f1 r1 h1 => ?_
  cases b with
  | true => exact ⟨ρ, S1, μ1, F, B1, r1, h1⟩
  | false => exact h1 false μ1 H1 B1 Fra.refl rfl
theorem t_or {a b : Expr} {r : List Expr} {pos : Pos} {f g : List (Option D) → Sto → Res Bool} (ha : PT X a (tT X cl W f)) (hb : PW X (.BoolOp .Or (b :: r) pos) (tT X cl W g)) :
    PW X (.BoolOp .Or (a :: b :: r) pos) (tT X cl W fun ρ S => (f ρ S).bind fun b S => if b then .ok true S else g ρ S) := by
  refine (pw_or ha hb).imp fun σ H Q ⟨ρ, S, μ, F, B, r, h⟩ => stepT B r h fun b H1 S1 μ1 B1 f1 r1 h1 => ?_
  cases b with
  | false => exact ⟨ρ, S1, μ1, F, B1, r1, h1⟩
  | true => exact h1 true μ1 H1 B1 Fra.refl rfl
/-! ### all, any -/
theorem bools_of {K : PySem.W.Frag} {G : Hp} : ∀ {l : List P} {bs : List Bool} {xs : List V}, boolsOf l = some bs → RepL K cl G l xs → xs = bs.map V.bl
  | [], bs, xs, h, r => by cases h; exact r
  | .bl b :: l, bs, xs, h, ⟨v, t, e, r1, r2⟩ => by
    have h' : (boolsOf l).map (b :: ·) = some bs := h
    obtain ⟨bs', e2, rfl⟩ := Option.map_eq_some_iff.mp h'
    rw [e, bools_of e2 r2, show v = V.bl b from r1]
    rfl
  | .non :: _, _, _, h, _ => by cases h
  | .int _ :: _, _, _, h, _ => by cases h
  | .str _ :: _, _, _, h, _ => by cases h
  | .tup _ :: _, _, _, h, _ => by cases h
  | .lst _ :: _, _, _, h, _ => by cases h
  | .ktup _ :: _, _, _, h, _ => by cases h
  | .fls _ :: _, _, _, h, _ => by cases h
  | .dk _ _ :: _, _, _, h, _ => by cases h
  | .dt _ _ :: _, _, _, h, _ => by cases h
  | .ins _ _ _ :: _, _, _, h, _ => by cases h
  | .exc _ _ _ :: _, _, _, h, _ => by cases h
theorem call_all_ok (hc : X.calm = true) (W : XK) : CallR X (.builtin "all") (RC1 X cl W .all) := by
  intro pins s σ H xs us Q I r h
  obtain ⟨x, rfl, F, μ, S, p, z, B, vp, hz, h⟩ := h
  cases p <;> first | (cases hz; done) | skip
  obtain ⟨bs, e, rfl⟩ := Option.map_eq_some_iff.mp hz
  obtain ⟨a, xs, rfl, ha, rl⟩ := vp
  have e2 := bools_of e rl
  subst e2
  exact cr_all hc pins s σ H _ us Q I r ⟨a, bs, rfl, .inl (.inl ha), give B h rfl⟩
theorem call_any_ok (hc : X.calm = true) (W : XK) : CallR X (.builtin "any") (RC1 X cl W .any) := by
  intro pins s σ H xs us Q I r h
  obtain ⟨x, rfl, F, μ, S, p, z, B, vp, hz, h⟩ := h
  cases p <;> first | (cases hz; done) | skip
  obtain ⟨bs, e, rfl⟩ := Option.map_eq_some_iff.mp hz
  obtain ⟨a, xs, rfl, ha, rl⟩ := vp
  have e2 := bools_of e rl
  subst e2
  exact cr_any hc pins s σ H _ us Q I r ⟨a, bs, rfl, .inl (.inl ha), give B h rfl⟩
theorem RepL.rev {K : PySem.W.Frag} {G : Hp} : ∀ {l : List P} {xs : List V}, RepL K cl G l xs → RepL K cl G l.reverse xs.reverse
  | [], _, h => by rw [show _ = [] from h]; rfl
  | p :: l, _, ⟨v, r, e, h, t⟩ => by
    rw [e, List.reverse_cons, List.reverse_cons]
    exact (RepL.rev t).app (RepL.one h)
theorem e_rev {e : Expr} {k : Nat} {p1 p2 p3 pos : Pos} {f : List (Option D) → Sto → Res D} (he : PE X e (tE X cl W f)) :
    PE X (.Subscript e (.Slice none none (some (.UnaryOp .USub (.Constant (.int 1) k p1) p2)) p3) pos) (tE X cl W fun ρ S => (f ρ S).bind fun d S => optR ((view S d).bind fun x => (prim1 .rev x).map .p) S) := by
  refine (pe_revL he).imp fun σ H Q ⟨ρ, S, μ, F, B, r, h⟩ => stepE B r h fun x H1 d S1 μ1 B1 f1 r1 rd h1 => ?_
  obtain ⟨d2, e2, h2⟩ := Sat.opt h1
  obtain ⟨p, e3, e4⟩ := Option.bind_eq_some_iff.mp e2
  obtain ⟨z, e5, rfl⟩ := Option.map_eq_some_iff.mp e4
  have v := view_vw B1 rd e3
  cases p <;> first | (cases e5; done) | skip
  · obtain ⟨a, xs, rfl, ha, rl⟩ := v
    cases e5
    exact ⟨a, xs, rfl, .inl (.inl ha), give_lst B1 h2 rl.rev⟩
  · obtain ⟨a, xs, rfl, ha, rl⟩ := v
    cases e5
    exact ⟨a, xs, rfl, gz_gle.sqL ha, give_lst B1 h2 rl.rev⟩
/-! ### isinstance -/
/-- what the own classes below n have for isinstance -/
structure InsCls (K : PySem.W.Frag) (C : Addr) : Prop where
  cls : Cls K C
  ha : PySem.W.findIn K (.ref C) "__class__" = some (some (.builtin "object.__class__"))
  hn : PySem.W.specialIn K (.builtin "object.__class__") "__get__" = some (some (.builtin "getset_descriptor.__get__"))
  htk : PySem.W.takesIn K (.builtin "object.__class__") = some true
  hm : PySem.W.mroIn K C (.type "object") = some true
def tyV (cl : Nat → Addr) : P → Value
  | .non => .type "NoneType"
  | .bl _ => .type "bool"
  | .int _ => .type "int"
  | .str _ => .type "str"
  | .tup _ | .ktup _ => .type "tuple"
  | .lst _ | .fls _ => .type "list"
  | .dk _ _ | .dt _ _ => .type "dict"
  | .ins c _ _ => .ref (cl c)
  | .exc c _ _ => .ref (cl (c + 500))
/-- one of each kind -/
def kinds (n : Nat) : List P := [.non, .bl false, .int 0, .str "", .tup [], .lst [], .dk [] []] ++ (List.range n).map fun c => .ins c [] []
/-- isinstance's answers are the ones of isTy -/
def KitOk (K : PySem.W.Frag) (cl : Nat → Addr) (n : Nat) (ts : List Ty) (us : List Value) : Prop := ∀ p ∈ kinds n, PySem.W.kitAny K (tyV cl p) us = some (ts.any (isTy p))
theorem kit_ok {K : PySem.W.Frag} {G H : Hp} {n : Nat} {ts : List Ty} {us : List Value} (g : Gle G H) (hc : ∀ c, c < n → InsCls K (cl c)) (ok : KitOk K cl n ts us) {p z : P} {v : V} (h : Vw K cl G H p v) (e : prim1 (.isA n ts) p = some z) :
    ∃ b, z = .bl b ∧ TyX K H v (tyV cl p) ∧ PySem.W.kitAny K (tyV cl p) us = some b := by
  have all : ∀ q ∈ kinds n, tyV cl q = tyV cl p → ts.any (isTy q) = ts.any (isTy p) → PySem.W.kitAny K (tyV cl p) us = some (ts.any (isTy p)) := fun q hq e1 e2 => by rw [← e1, ← e2]; exact ok q hq
  have mem : ∀ q ∈ ([.non, .bl false, .int 0, .str "", .tup [], .lst [], .dk [] []] : List P), q ∈ kinds n := fun q hq => List.mem_append_left _ hq
  have anyC : ∀ q q' : P, (∀ t, isTy q t = isTy q' t) → ts.any (isTy q) = ts.any (isTy q') := fun q q' h => by rw [show isTy q = isTy q' from funext h]
  cases p with
  | non => cases e; exact ⟨_, rfl, (show v = .non from h) ▸ .base .non, all .non (mem _ (by simp)) rfl rfl⟩
  | bl b => cases e; exact ⟨_, rfl, (show v = .bl b from h) ▸ .base (.bl b), all (.bl false) (mem _ (by simp)) rfl (anyC _ _ fun t => by cases t <;> rfl)⟩
  | int b => cases e; exact ⟨_, rfl, (show v = .int b from h) ▸ .base (.int b), all (.int 0) (mem _ (by simp)) rfl (anyC _ _ fun t => by cases t <;> rfl)⟩
  | str b => cases e; exact ⟨_, rfl, (show v = .str b from h) ▸ .base (.str b), all (.str "") (mem _ (by simp)) rfl (anyC _ _ fun t => by cases t <;> rfl)⟩
  | tup l =>
    cases e
    obtain ⟨a, xs, rfl, ha, _⟩ := h
    exact ⟨_, rfl, .base (.tup (g.ex a (.tup xs) trivial ha)), all (.tup []) (mem _ (by simp)) rfl (anyC _ _ fun t => by cases t <;> rfl)⟩
  | lst l =>
    cases e
    obtain ⟨a, xs, rfl, ha, _⟩ := h
    exact ⟨_, rfl, .base (.lst ha), all (.lst []) (mem _ (by simp)) rfl (anyC _ _ fun t => by cases t <;> rfl)⟩
  | ktup l => cases e
  | fls l => cases e
  | exc _ _ _ => cases e
  | dt ks vs => cases e
  | dk ks vs =>
    cases e
    obtain ⟨a, kvs, rfl, ha, _⟩ := h
    refine ⟨_, rfl, ?_, all (.dk [] []) (mem _ (by simp)) rfl (anyC _ _ fun t => by cases t <;> rfl)⟩
    rcases ha with ha | ⟨o, ha⟩
    · exact .base (.dK ha)
    · exact .fDict ha
  | ins c ns vs =>
    simp only [prim1] at e
    split at e
    · rename_i hlt
      cases e
      obtain ⟨a, dx, ys, rfl, ha, _⟩ := h
      have ci := hc c hlt
      exact ⟨_, rfl, .base (.ins ha ci.cls ci.ha ci.hn ci.htk ci.hm), all (.ins c [] []) (List.mem_append_right _ (List.mem_map.mpr ⟨c, List.mem_range.mpr hlt, rfl⟩)) rfl (anyC _ _ fun t => by cases t <;> rfl)⟩
    · cases e
theorem kit_one {K : PySem.W.Frag} {t u : Value} {b : Bool} (h : PySem.W.kitAny K t [u] = some b) : PySem.W.kitOne K t u = some b := by
  unfold PySem.W.kitAny at h
  split at h
  · cases h; assumption
  · unfold PySem.W.kitAny at h; cases h; assumption
  · cases h
theorem e_isA1 {n : Nat} {ts : List Ty} {a c : Expr} {vc : V} {u : Value} {p pos : Pos} {f : List (Option D) → Sto → Res D} (hc : ∀ c, c < n → InsCls X.K (cl c)) (ok : KitOk X.K cl n ts [u]) (hcl : ClsV vc u) (hvc : PE X c (tC vc))
    (hg : Gl X "isinstance") (hm : X.mg "isinstance" = none) (hs1 : noStar a = true) (hs2 : noStar c = true) (ha : PE X a (tE X cl W f)) :
    PE X (.Call (.Name "isinstance" p) [a, c] [] pos) (tE X cl W fun ρ S => (f ρ S).bind fun d S => optR ((view S d).bind fun x => (prim1 (.isA n ts) x).map .p) S) := by
  refine (pe_callB call_isi hg hm (by first | rfl | decide +kernel) (pa_cons ha (pa_cons hvc pa_nil (star_cons hs2)) (star_cons hs1)) (he := star_cons hs1) (hpl := star_none (by simp [hs2]))).imp fun σ H Q ⟨ρ, S, μ, F, B, r, h⟩ => ?_
  refine stepE B r h fun x H1 d S1 μ1 B1 f1 r1 rd h1 => ?_
  obtain ⟨d2, e2, h2⟩ := Sat.opt h1
  obtain ⟨q, e3, e4⟩ := Option.bind_eq_some_iff.mp e2
  obtain ⟨z, e5, rfl⟩ := Option.map_eq_some_iff.mp e4
  obtain ⟨b, rfl, ty, kk⟩ := kit_ok gz_gle hc ok (view_vw B1 rd e3) e5
  exact ⟨x, vc, _, u, b, rfl, hcl, ty, kit_one kk, give B1 h2 rfl⟩
theorem e_isAT {n : Nat} {ts : List Ty} {a : Expr} {cs : List Expr} {vcs : List V} {us : List Value} {x1} {p pos pt : Pos} {f : List (Option D) → Sto → Res D} (hc : ∀ c, c < n → InsCls X.K (cl c)) (ok : KitOk X.K cl n ts us) (hcl : Paired ClsV vcs us) (hz : vcs.length ≤ sizeLine) (hvc : PA X cs fun σ H Q => Q vcs H)
    (hg : Gl X "isinstance") (hm : X.mg "isinstance" = none) (hs1 : noStar a = true) (ha : PE X a (tE X cl W f)) :
    PE X (.Call (.Name "isinstance" p) [a, .Tuple cs x1 pt] [] pos) (tE X cl W fun ρ S => (f ρ S).bind fun d S => optR ((view S d).bind fun x => (prim1 (.isA n ts) x).map .p) S) := by
  refine (pe_callB call_isiT hg hm (by first | rfl | decide +kernel) (pa_cons ha (pa_cons (pe_tup hvc) pa_nil (star_cons rfl)) (star_cons hs1)) (he := star_cons hs1) (hpl := star_none rfl)).imp fun σ H Q ⟨ρ, S, μ, F, B, r, h⟩ => ?_
  refine stepE B r h fun x H1 d S1 μ1 B1 f1 r1 rd h1 => ⟨hz, fun tp htp => ?_⟩
  obtain ⟨B2, f2⟩ := B1.fresh (o := .tup vcs) htp
  obtain ⟨d2, e2, h2⟩ := Sat.opt h1
  obtain ⟨q, e3, e4⟩ := Option.bind_eq_some_iff.mp e2
  obtain ⟨z, e5, rfl⟩ := Option.map_eq_some_iff.mp e4
  obtain ⟨b, rfl, ty, kk⟩ := kit_ok gz_gle hc ok (view_vw B2 (rd.mono f2.pre f2.gle (cl := cl)) e3) e5
  exact ⟨x, tp, vcs, _, us, b, rfl, upd_same, hcl, ty, kk, h2 _ μ1 _ B2 f2 rfl⟩
/-! ### list(d.items()) -/
def rItemsR : V → Hp → VK → Prop := fun x H Q => ∃ (d : Addr) (kvs : List (Key × V)), x = .ref d ∧ Rd H d (.dK kvs) ∧
  ∀ (H' : Hp) (p : Addr) (ts : List Addr), (∀ b o, H b = some o → H' b = some o) → H p = none → (∀ t ∈ ts, H t = none) → p ∉ ts → H' p = some (.lst (ts.map V.ref)) → Paired (fun (t : Addr) (q : Key × V) => H' t = some (.tup [kV q.1, q.2])) ts kvs → Q (.ref p) H'
theorem pe_listItemsR {e : Expr} {te : TE} {p apos cpos pos : Pos} (hc : X.calm = true) (he : PE X e te) (hg : Gl X "list") (hm : X.mg "list" = none) (hv : bootBuiltins "list" = some (.type "list")) (hbase : attributeBase e "items" X.env (eval e X.env) = eval e X.env) (hline : (apos.endLine == cpos.line) = true)
    (hs : starEach [.Call (.Attribute e "items" apos) [] [] cpos] X.env = (false, eval (.Call (.Attribute e "items" apos) [] [] cpos) X.env) :: starEach [] X.env := by rfl) :
    PE X (.Call (.Name "list" p) [.Call (.Attribute e "items" apos) [] [] cpos] [] pos) (fun σ H Q => te σ H fun x H1 => rItemsR x H1 Q) := by
  refine ⟨fun pins s σ H Q I hq => ?_⟩
  refine wpAny_Call_Name_kw (ld_blt I hg hm hv ?_)
  refine PyProof.Rows.callWith_type1 ?_ hs rfl
  rw [hs]
  show wpAny _ _ (spliced ((false, eval (.Call (.Attribute e "items" apos) [] [] cpos) X.env) :: backTo pos (starEach [] X.env))) _ _ s
  refine Calls.spliced_cons ?_
  refine wpAny_Call_method (T := "dict") (id := "dict.items") hbase rfl hline PySem.F.plainAttrs_dict PySem.F.slot_dict_items PySem.F.type_dict_items (thn (he.run pins s σ H _ I hq) fun u s1 ⟨x, H1, I1, rx, d, kvs, ex, hd, q⟩ => ?_)
  subst ex
  obtain rfl : u = Value.ref d := rx
  obtain ⟨hz, hs0, vs, kv, hdo⟩ := hd.ok I1.hok
  obtain ⟨ep, hat⟩ := hdo.dictAt
  have lk : kvs.length = vs.length := Paired.length kv
  have I2 : Inv X pins σ H1 { s1 with heap := s1.heap.push { cls := .type "dict_items", data := .fields #[.ref d] } } := I1.kept (t' := s1.toks) fun b ob q => Heap.get?_push_of_some _ q
  refine ⟨hdo.typeIs, hdo.mapOf.noDict, ?_⟩
  show wpAny _ _ (callWith cpos (.builtin "dict.items") [.ref d] [] []) _ X.xe s1
  refine method_meetsIn PySem.F.slot_dict_items PySem.F.entry_dict_items rfl (PySem.evalArgs_none ⟨rfl, hdo.typeIs, PySem.F.args_dict_items_1 _, _, meets_dict_items (mixKind X.prog X.w) d hs0, ⟨vs, hdo⟩, ?_⟩)
  refine Calls.spliced_nil ?_
  refine PySem.W.kdx_call (knd := mixKind X.prog X.w) (kvs := vs) (ep := ep) (I1.ok.hd hc) ⟨_, Heap.get?_push_size _ rfl, rfl, rfl⟩ (hat.push _) (by omega) fun h' tk acc c as hk hS hl hG hacc => ?_
  obtain ⟨H', k1, k2, k3, k4, k5, k6, J⟩ := LiI.items_laid (tk := tk) I2 hz kv hk hS hl hG hacc
  exact ⟨.ref _, H', J, rfl, q H' _ as k1 k2 k3 k4 k5 k6⟩
theorem items_rep {K : PySem.W.Frag} {G : Hp} : ∀ {kvs : List (Key × V)} {vs : List P} {ts : List Addr}, RepL K cl G vs (kvs.map (·.2)) → Paired (fun (t : Addr) (q : Key × V) => G t = some (.tup [kV q.1, q.2])) ts kvs →
    RepL K cl G (((kvs.map (·.1)).zip vs).map fun kv => .tup [ofKey kv.1, kv.2]) (ts.map V.ref)
  | [], vs, _, r, .nil => by
    have e : (([] : List (Key × V)).map (·.1)).zip vs = [] := rfl
    rw [e]; rfl
  | kv :: kvs, vs, _, r, .cons h t => by
    cases vs with
    | nil => cases (show (_ :: _ : List V) = [] from r)
    | cons p vs =>
      obtain ⟨v, rr, e, r1, r2⟩ := r
      cases e
      exact ⟨_, _, rfl, ⟨_, _, rfl, h, _, _, rfl, key_rep _, _, _, rfl, r1, rfl⟩, items_rep r2 t⟩
theorem e_items {e : Expr} {p apos cpos pos : Pos} {f : List (Option D) → Sto → Res D} (hc : X.calm = true) (hg : Gl X "list") (hm : X.mg "list" = none) (hb : plainBase e = true) (hline : (apos.endLine == cpos.line) = true) (he : PE X e (tE X cl W f)) :
    PE X (.Call (.Name "list" p) [.Call (.Attribute e "items" apos) [] [] cpos] [] pos) (tE X cl W fun ρ S => (f ρ S).bind fun d S => optR ((view S d).bind fun x => (prim1 .itemsL x).map .p) S) := by
  refine (pe_listItemsR hc he hg hm (by first | rfl | decide +kernel) (base_plain hb) hline).imp fun σ H Q ⟨ρ, S, μ, F, B, r, h⟩ => stepE B r h fun x H1 d S1 μ1 B1 f1 r1 rd h1 => ?_
  obtain ⟨d2, e2, h2⟩ := Sat.opt h1
  obtain ⟨q, e3, e4⟩ := Option.bind_eq_some_iff.mp e2
  obtain ⟨z, e5, rfl⟩ := Option.map_eq_some_iff.mp e4
  have v := view_vw B1 rd e3
  cases q <;> first | (cases e5; done) | skip
  obtain ⟨a, kvs, rfl, ha, hk, rl⟩ := v
  cases e5
  refine ⟨a, kvs, rfl, ha, fun H' lp ts keep hlp hts nin hl pr => ?_⟩
  obtain ⟨B2, f2⟩ := B1.grow keep
  have nl : ∀ b, H1 b = none → Gz F μ1 S1 H' b = H' b := fun b hb => gz_of (B1.noliv hb) (fun z => B1.hd b z hb)
  refine h2 _ μ1 H' B2 f2 ⟨lp, _, rfl, by rw [nl lp hlp]; exact hl, ?_⟩
  subst hk
  refine items_rep (RepL.mono f2.gle _ _ rl) ?_
  have go : ∀ {ts : List Addr} {kvs : List (Key × V)}, (∀ t ∈ ts, H1 t = none) → Paired (fun (t : Addr) (q : Key × V) => H' t = some (.tup [kV q.1, q.2])) ts kvs → Paired (fun (t : Addr) (q : Key × V) => Gz F μ1 S1 H' t = some (.tup [kV q.1, q.2])) ts kvs := by
    intro ts kvs hn p
    induction p with
    | nil => exact .nil
    | cons h t ih => exact .cons (by rw [nl _ (hn _ List.mem_cons_self)]; exact h) (ih fun t ht => hn t (List.mem_cons_of_mem _ ht))
  exact go hts pr
end
end PD
/-! Targets, what is walked, comprehensions. -/
namespace PD
open PySem L2 PySem.Spec PyProof.Rows
theorem _root_.L2.PI.imp {X : Cx} {tg e : Expr} {t t' : TI} (h : PI X tg e t) (q : ∀ σ H Q, t' σ H Q → t σ H Q) : PI X tg e t' := ⟨fun pins s σ H Q I w => h.run pins s σ H Q I (q σ H Q w)⟩
theorem _root_.L2.PG.imp {X : Cx} {e : Expr} {t t' : TG} (h : PG X e t) (q : ∀ v σ H Q, t' v σ H Q → t v σ H Q) : PG X e t' := ⟨fun pins s σ H v u Q I r w => h.run pins s σ H v u Q I r (q v σ H Q w)⟩
theorem _root_.L2.PGs.imp {X : Cx} {e : List Expr} {t t' : TGs} (h : PGs X e t) (q : ∀ v σ H Q, t' v σ H Q → t v σ H Q) : PGs X e t' := ⟨fun pins s σ H v u Q I r w => h.run pins s σ H v u Q I r (q v σ H Q w)⟩
theorem _root_.L2.PTs.imp {X : Cx} {e : List Expr} {t t' : TT} (h : PTs X e t) (q : ∀ σ H Q, t' σ H Q → t σ H Q) : PTs X e t' := ⟨fun pins s σ H Q I w => h.run pins s σ H Q I (q σ H Q w)⟩
theorem bind_inv {α β : Type} {r : Res α} {f : α → Sto → Res β} {b : β} {S : Sto} (h : r.bind f = .ok b S) : ∃ a S1, r = .ok a S1 ∧ f a S1 = .ok b S := by
  cases r with
  | ok a S1 => exact ⟨a, S1, rfl, h⟩
  | rse _ _ _ _ => cases h
  | bad => cases h
section
variable {K : PySem.W.Frag} {cl : Nat → Addr} {F μ : List Addr} {S : Sto} {H : Hp} {D : Addr}
theorem frz_ok {d : PD.D} {v : V} {p : P} {S1 : Sto} (B : Bears K cl F μ H S) (r : RepD K cl μ (Gz F μ S H) d v) (h : frz S d = .ok p S1) : Bears K cl F μ H S1 ∧ Fra μ S H μ S1 H ∧ Rep K cl (Gz F μ S1 H) p v := by
  cases d with
  | p x => cases h; exact ⟨B, Fra.refl, r⟩
  | box n =>
    obtain ⟨a, rfl, hn⟩ := r
    simp only [PD.frz] at h
    cases hs : S[n]? with
    | none => rw [hs] at h; cases h
    | some oo =>
      cases oo with
      | none => rw [hs] at h; cases h
      | some o =>
        rw [hs] at h
        dsimp only at h
        cases hc : cont o with
        | none => rw [hc] at h; cases h
        | some q =>
          rw [hc] at h
          cases h
          exact B.freeze hn hs hc
/-! ### a hidden thing -/
theorem Bears.hideNew {u : HO} (B : Bears K cl F μ H S) (hD : H D = none) : Bears K cl (D :: F) μ (upd H D u) S ∧ Fra μ S H μ S (upd H D u) ∧ Gle (Gz F μ S H) (Gz (D :: F) μ S (upd H D u)) := by
  have fr : Fra μ S H μ S (upd H D u) := ⟨List.prefix_refl _, fun a w h e => ⟨upd_keep hD a w e, h⟩, dom_of (upd_keep hD)⟩
  have gl : Gle (Gz F μ S H) (Gz (D :: F) μ S (upd H D u)) := Gle.of fun a w h => by
    obtain ⟨h1, h2, h3⟩ := gz_some h
    have hne : a ≠ D := fun e => by rw [e, hD] at h3; cases h3
    rw [gz_of h1 (by rw [List.mem_cons]; exact fun z => z.elim hne h2), upd_ne hne]
    exact h3
  have nm : ∀ (n : Nat) (a : Addr), μ[n]? = some a → a ≠ D := fun n a hn e => B.dom n a hn (e ▸ hD)
  refine ⟨⟨B.len, B.nd, fun n a o hn hs => (B.obj n a o hn hs).mono (List.prefix_refl _) gl fun w e => upd_keep hD a w e, fun n a hn => fr.dom a (B.dom n a hn), fun n a hn => by rw [List.mem_cons]; exact fun z => z.elim (nm n a hn) (B.nf n a hn), fun a z => ?_⟩, fr, gl⟩
  rcases List.mem_cons.mp z with z | z
  · rw [z, upd_same]; exact fun z => by cases z
  · exact fr.dom a (B.hd a z)
theorem Bears.hid {u : HO} (B : Bears K cl F μ H S) (hD : D ∈ F) : Bears K cl F μ (upd H D u) S ∧ Gz F μ S (upd H D u) = Gz F μ S H := by
  have eG : Gz F μ S (upd H D u) = Gz F μ S H := by
    funext a
    unfold Gz
    split
    · rfl
    · rename_i h
      rw [upd_ne (fun e => h (.inr (by rw [e]; exact hD)))]
  have nm : ∀ (n : Nat) (a : Addr), μ[n]? = some a → a ≠ D := fun n a hn e => B.nf n a hn (e ▸ hD)
  refine ⟨⟨B.len, B.nd, fun n a o hn hs => ?_, fun n a hn => by rw [upd_ne (nm n a hn)]; exact B.dom n a hn, B.nf, fun a z => ?_⟩, eG⟩
  · rw [eG]
    exact (B.obj n a o hn hs).mono (List.prefix_refl _) (Gle.refl _) fun w e => by rw [upd_ne (nm n a hn)]; exact e
  · by_cases e : a = D
    · rw [e, upd_same]; exact fun z => by cases z
    · rw [upd_ne e]; exact B.hd a z
theorem Bears.unhide (B : Bears K cl (D :: F) μ H S) : Bears K cl F μ H S ∧ Gle (Gz (D :: F) μ S H) (Gz F μ S H) := by
  have gl : Gle (Gz (D :: F) μ S H) (Gz F μ S H) := Gle.of fun a w h => by
    obtain ⟨h1, h2, h3⟩ := gz_some h
    rw [gz_of h1 (fun z => h2 (List.mem_cons_of_mem _ z))]
    exact h3
  exact ⟨⟨B.len, B.nd, fun n a o hn hs => (B.obj n a o hn hs).mono (List.prefix_refl _) gl fun w e => e, B.dom, fun n a hn z => B.nf n a hn (List.mem_cons_of_mem _ z), fun a z => B.hd a (List.mem_cons_of_mem _ z)⟩, gl⟩
theorem Bears.offhid (B : Bears K cl F μ H S) (hD : D ∈ F) : ¬ Liv μ S D := fun ⟨n, o, e, _⟩ => B.nf n D e hD
theorem Bears.adopt {o : O} (B : Bears K cl (D :: F) μ H S) (hF : D ∉ F) (q : ObjAt K cl μ (Gz (D :: F) μ S H) H D o) : Bears K cl F (μ ++ [D]) H (S ++ [some o]) := by
  have eG : Gz (D :: F) μ S H = Gz F (μ ++ [D]) (S ++ [some o]) H := gz_congr fun a => by
    have l : Liv (μ ++ [D]) (S ++ [some o]) a ↔ Liv μ S a ∨ a = D := by
      constructor
      · exact liv_app B.len
      · rintro (⟨n, x, e1, e2⟩ | e)
        · exact ⟨n, x, pre_get (List.prefix_append _ _) e1, pre_get (List.prefix_append _ _) e2⟩
        · subst e
          exact ⟨μ.length, o, by simp, by rw [B.len]; simp⟩
    rw [l, List.mem_cons]
    constructor
    · rintro (z | z | z)
      · exact .inl (.inl z)
      · exact .inl (.inr z)
      · exact .inr z
    · rintro ((z | z) | z)
      · exact .inl z
      · exact .inr (.inl z)
      · exact .inr (.inr z)
  have nm : ∀ (n : Nat) (a : Addr), μ[n]? = some a → a ≠ D := fun n a hn e => B.nf n a hn (e ▸ List.mem_cons_self)
  refine ⟨by simp [B.len], ?_, fun n a x hn hx => ?_, fun n a hn => ?_, fun n a hn => ?_, fun a z => B.hd a (List.mem_cons_of_mem _ z)⟩
  · rw [List.nodup_append]
    refine ⟨B.nd, by simp, fun x hx y hy => ?_⟩
    simp at hy
    subst hy
    obtain ⟨n, hn⟩ := List.mem_iff_getElem?.mp hx
    exact nm n x hn
  · by_cases c : n < μ.length
    · rw [List.getElem?_append_left c] at hn
      rw [List.getElem?_append_left (by rw [← B.len]; exact c)] at hx
      rw [← eG]
      exact (B.obj n a x hn hx).mono (List.prefix_append _ _) (Gle.refl _) fun _ e => e
    · rw [List.getElem?_append_right (by omega)] at hn
      rw [List.getElem?_append_right (by have := B.len; omega)] at hx
      have e1 := (List.getElem?_eq_some_iff.mp hn).2
      have e2 := (List.getElem?_eq_some_iff.mp hx).2
      simp at e1 e2
      subst e1; subst e2
      rw [← eG]
      exact q.mono (List.prefix_append _ _) (Gle.refl _) fun _ e => e
  · by_cases c : n < μ.length
    · rw [List.getElem?_append_left c] at hn
      exact B.dom n a hn
    · rw [List.getElem?_append_right (by omega)] at hn
      have e1 := (List.getElem?_eq_some_iff.mp hn).2
      simp at e1
      subst e1
      exact B.hd _ List.mem_cons_self
  · by_cases c : n < μ.length
    · rw [List.getElem?_append_left c] at hn
      exact fun z => B.nf n a hn (List.mem_cons_of_mem _ z)
    · rw [List.getElem?_append_right (by omega)] at hn
      have e1 := (List.getElem?_eq_some_iff.mp hn).2
      simp at e1
      subst e1
      exact hF
end
/-! ### what is walked -/
/-- J walks these items, as long as what may be read now may be read -/
def Wk (K : PySem.W.Frag) (cl : Nat → Addr) (G0 : Hp) (items : List P) (J : It) : Prop := ∀ i F μ S H, Bears K cl F μ H S → Gle G0 (Gz F μ S H) →
  (items.length ≤ i → J.stop i H) ∧ ∀ p, items[i]? = some p → J.go i H ∧ ∀ x H', J.yld i H x H' → Bears K cl F μ H' S ∧ Fra μ S H μ S H' ∧ Rep K cl (Gz F μ S H') p x
abbrev RJ (K : PySem.W.Frag) (cl : Nat → Addr) : List Addr → Hp → List P → It → Prop := fun _ G items J => Wk K cl G items J
def tI (X : Cx) (cl : Nat → Addr) (W : WX) (f : List (Option D) → Sto → Res (List P)) : TI := fun σ H R => ∃ ρ S μ F, Bears X.K cl F μ H S ∧ RepS X.K cl μ (Gz F μ S H) σ ρ ∧ Sat X.K cl F μ S H (RJ X.K cl) (f ρ S) (WS W σ) R
theorem wk_list {K : PySem.W.Frag} {cl : Nat → Addr} {G0 : Hp} {a : Addr} {items : List P} {xs : List V} (h : SqL K G0 a xs) (r : RepL K cl G0 items xs) : Wk K cl G0 items (Itl K a) := fun i F μ S H B g => by
  have hq : SqL K H a xs := (g.trans gz_gle).sqL h
  refine ⟨fun hi => ⟨xs, hq, by rw [← r.len]; exact hi⟩, fun p hp => ?_⟩
  obtain ⟨v, hv, rv⟩ := r.get hp
  refine ⟨⟨xs, v, hq, hv⟩, fun x H' y => ?_⟩
  obtain ⟨e, y⟩ := y
  subst e
  have e2 := y xs hq
  rw [hv] at e2
  cases e2
  exact ⟨B, Fra.refl, Rep.mono g _ _ rv⟩
theorem wk_tup {K : PySem.W.Frag} {cl : Nat → Addr} {G0 : Hp} {a : Addr} {items : List P} {xs : List V} (h : SqT K G0 a xs) (r : RepL K cl G0 items xs) : Wk K cl G0 items (Itt K a) := fun i F μ S H B g => by
  have hq : SqT K H a xs := (g.trans gz_gle).sqT h
  refine ⟨fun hi => ⟨xs, hq, by rw [← r.len]; exact hi⟩, fun p hp => ?_⟩
  obtain ⟨v, hv, rv⟩ := r.get hp
  refine ⟨⟨xs, v, hq, hv⟩, fun x H' y => ?_⟩
  obtain ⟨e, y⟩ := y
  subst e
  have e2 := y xs hq
  rw [hv] at e2
  cases e2
  exact ⟨B, Fra.refl, Rep.mono g _ _ rv⟩
theorem wk_rng {K : PySem.W.Frag} {cl : Nat → Addr} {G0 : Hp} {lo hi : Int} : Wk K cl G0 (rng lo hi) (Itr lo (hi - lo).toNat) := fun i F μ S H B g => by
  refine ⟨fun h => by simpa [rng, Itr] using h, fun p hp => ?_⟩
  have hlt : i < (hi - lo).toNat := by
    have := (List.getElem?_eq_some_iff.mp hp).1
    simpa [rng] using this
  refine ⟨hlt, fun x H' y => ?_⟩
  obtain ⟨e, y⟩ := y
  subst e; subst y
  have e2 : p = .int (lo + (i : Int)) := by
    have := (List.getElem?_eq_some_iff.mp hp).2
    simpa [rng] using this.symm
  subst e2
  exact ⟨B, Fra.refl, rfl⟩
section
variable {X : Cx} {cl : Nat → Addr} {W : WX} {tg : Expr}
def iSeq (K : PySem.W.Frag) (tl : TE) : TI := fun σ H R => tl σ H fun x H1 => ∃ a, x = .ref a ∧ (((∃ xs, SqL K H1 a xs) ∧ R (Itl K a) H1) ∨ ((∃ xs, SqT K H1 a xs) ∧ R (Itt K a) H1))
theorem pi_seq {l : Expr} {tl : TE} (hl : PE X l tl) : PI X tg l (iSeq X.K tl) := by
  refine ⟨fun pins s σ H R I h => ?_⟩
  refine thn (hl.run pins s σ H _ I h) fun v s1 ⟨x, H1, I1, r1, q1⟩ => ?_
  obtain ⟨a, e, ⟨⟨xs, hq⟩, q⟩ | ⟨⟨xs, hq⟩, q⟩⟩ := q1
  · subst e
    cases r1
    obtain ⟨its, rv, p, hz⟩ := I1.list hq
    refine wpAny_pyIter_list p.isList ?_
    refine ⟨s1.heap.objs.size, [s1.heap.objs.size], _, _, H1, rfl, I1.kept (t' := s1.toks) fun b o e => Heap.get?_push_of_some _ e, turn_list a _, ⟨_, Heap.get?_push_size _ rfl, rfl, rfl⟩, fun b hb => ?_, q⟩
    have e : b = s1.heap.objs.size := by simpa using hb
    subst e
    exact I1.fpOk (Nat.le_refl _) (I1.hok.fresh (Nat.le_refl _))
  · subst e
    cases r1
    obtain ⟨its, rv, p, hz⟩ := I1.tuple hq
    refine wpAny_pyIter_tuple (show s1.heap.IsTuple a its.toArray from p) ?_
    refine ⟨s1.heap.objs.size, [s1.heap.objs.size], _, _, H1, rfl, I1.kept (t' := s1.toks) fun b o e => Heap.get?_push_of_some _ e, turn_tuple a _, ⟨_, Heap.get?_push_size _ rfl, rfl, rfl⟩, fun b hb => ?_, q⟩
    have e : b = s1.heap.objs.size := by simpa using hb
    subst e
    exact I1.fpOk (Nat.le_refl _) (I1.hok.fresh (Nat.le_refl _))
theorem s_seq {e : Expr} {f : List (Option D) → Sto → Res D} (he : PE X e (tE X cl W f)) : PI X tg e (tI X cl W fun ρ S => (f ρ S).bind fun d S => (frz S d).bind fun x S => match x with
    | .lst l => .ok l S
    | .tup l => .ok l S
    | .fls l => .ok l S
    | .ktup l => .ok l S
    | _ => .bad) := by
  refine (pi_seq he).imp fun σ H R ⟨ρ, S, μ, F, B, r, h⟩ => stepE B r h fun x H1 d S1 μ1 B1 f1 r1 rd h1 => ?_
  obtain ⟨p, S2, e1, l1, B2, f2, q1, h2⟩ := Sat.frz B1 rd h1
  cases p <;> first | exact h2.elim | skip
  · obtain ⟨a, xs, rfl, ha, rl⟩ := q1
    exact ⟨a, rfl, .inr ⟨⟨xs, .inl (.inl (gz_gle.ex a (.tup xs) trivial ha))⟩, h2 _ μ1 H1 B2 Fra.refl (wk_tup (.inl (.inl ha)) rl)⟩⟩
  · obtain ⟨a, xs, rfl, ha, rl⟩ := q1
    exact ⟨a, rfl, .inl ⟨⟨xs, .inl (.inl (gz_gle.ex a (.lst xs) trivial ha))⟩, h2 _ μ1 H1 B2 Fra.refl (wk_list (.inl (.inl ha)) rl)⟩⟩
  · obtain ⟨a, xs, rfl, ha, rl⟩ := q1
    exact ⟨a, rfl, .inr ⟨⟨xs, gz_gle.sqT ha⟩, h2 _ μ1 H1 B2 Fra.refl (wk_tup ha rl)⟩⟩
  · obtain ⟨a, xs, rfl, ha, rl⟩ := q1
    exact ⟨a, rfl, .inl ⟨⟨xs, gz_gle.sqL ha⟩, h2 _ μ1 H1 B2 Fra.refl (wk_list ha rl)⟩⟩
theorem small_of {i : Int} (h : small62 i = true) : -(2 ^ 62) ≤ i ∧ i < 2 ^ 62 := by
  unfold small62 at h
  simpa using h
theorem s_rng1 {e : Expr} {p pos : Pos} {f : List (Option D) → Sto → Res D} (hg : Gl X "range") (hm : X.mg "range" = none) (hs : noStar e = true) (he : PE X e (tE X cl W f)) : PI X tg (.Call (.Name "range" p) [e] [] pos) (tI X cl W fun ρ S => (f ρ S).bind fun d S => match d with
    | .p (.int i) => if small62 i then .ok (rng 0 i) S else .bad
    | _ => .bad) := by
  refine (pi_range1 hg hm (pa_cons he pa_nil (star_cons hs)) (star_cons hs)).imp fun σ H R ⟨ρ, S, μ, F, B, r, h⟩ => stepE B r h fun x H1 d S1 μ1 B1 f1 r1 rd h1 => ?_
  cases d with
  | box n => exact h1.elim
  | p y =>
    cases y <;> first | exact h1.elim | skip
    rename_i i
    dsimp only at h1
    split at h1
    · rename_i hb
      obtain ⟨h3, h4⟩ := small_of hb
      have := h1 (Itr 0 (i - 0).toNat) μ1 H1 B1 Fra.refl wk_rng
      exact ⟨i, by rw [show x = V.int i from rd], h3, h4, by simpa using this⟩
    · exact h1.elim
theorem s_rng2 {a b : Expr} {p pos : Pos} {f g : List (Option D) → Sto → Res D} (hg : Gl X "range") (hm : X.mg "range" = none) (hs1 : noStar a = true) (hs2 : noStar b = true) (ha : PE X a (tE X cl W f)) (hb : PE X b (tE X cl W g)) : PI X tg (.Call (.Name "range" p) [a, b] [] pos) (tI X cl W fun ρ S => (f ρ S).bind fun d S => (g ρ S).bind fun e S => match d, e with
    | .p (.int i), .p (.int j) => if small62 i && small62 j then .ok (rng i j) S else .bad
    | _, _ => .bad) := by
  refine (pi_range2 hg hm (pa_cons ha (pa_cons hb pa_nil (star_cons hs2)) (star_cons hs1)) (by rw [star_cons hs1, star_cons hs2]; rfl) (star_cons hs2)).imp fun σ H R ⟨ρ, S, μ, F, B, r, h⟩ => stepE B r h fun x H1 d S1 μ1 B1 f1 r1 rd h1 => stepE B1 r1 h1 fun y H2 e S2 μ2 B2 f2 r2 re h2 => ?_
  split at h2
  · split at h2
    · rename_i hb
      rw [Bool.and_eq_true] at hb
      obtain ⟨h3, h4⟩ := small_of hb.1
      obtain ⟨h5, h6⟩ := small_of hb.2
      exact ⟨_, _, by rw [show x = V.int _ from rd, show y = V.int _ from re], ⟨h3, h4, h5, h6⟩, h2 _ μ2 H2 B2 Fra.refl wk_rng⟩
    · exact h2.elim
  · exact h2.elim
end
end PD
/-! Targets, comprehensions. -/
namespace PD
open PySem L2 PySem.Spec PyProof.Rows
def setV (σ : L2.St) : List Nat → List V → L2.St
  | i :: is, x :: xs => setV (σ.set i (some x)) is xs
  | _, _ => σ
def Tg.names : Tg → List Nat
  | .nm i => [i]
  | .tp l => l
def gAll (is : List Nat) : TGs := fun vs σ H Q => vs.length = is.length ∧ Q (setV σ is vs) H
/-- a target's reading -/
def gT (K : PySem.W.Frag) : Tg → TG
  | .nm i => fun v σ H Q => Q (σ.set i (some v)) H
  | .tp is => fun v σ H Q => ∃ a xs, v = .ref a ∧ (SqT K H a xs ∨ SqL K H a xs) ∧ xs.length = is.length ∧ Q (setV σ is xs) H
/-- a local name at its place -/
def NameAt (X : Cx) (e : Expr) (i : Nat) : Prop := ∃ x pos, e = .Name x pos ∧ X.N[i]? = some x ∧ Loc X.env.scope x ∧ (X.fn x = true ∨ X.env.scope.names.lookup x = some .local)
section
variable {prog : Program} {w : World} {A : Around} {E : Value → Shared → Prop} {s : Shared}
theorem draw_list {it t : Addr} {items : Array Value} (hne : t ≠ it) : ∀ (n i : Nat) (s : Shared) (Q : List Value → Shared → Prop), s.heap.IsListIter it t i → s.heap.IsList t items → i + n ≤ items.size →
    (∀ h', h'.IsListIter it t (i + n) → Heap.SameBut it s.heap h' → Q ((items.toList.drop i).take n) { s with heap := h' }) → wpAny (model prog w) A (draw (.ref it) n) Q E s
  | 0, i, s, Q, hit, _, _, hQ => by
    show wpAny _ _ (pure []) Q E s
    exact wpAny_pure (by simpa using hQ s.heap hit (Heap.SameBut.refl ..))
  | n + 1, i, s, Q, hit, ht, hle, hQ => by
    have hlt : i < items.size := by omega
    show wpAny _ _ (pyNext (.ref it) >>= _) Q E s
    refine wpAny_bind (wpAny_pyNext_list_item hit ht (x := items[i]) (by simp [hlt]) fun h₁ hit₁ hs₁ => ?_)
    refine wpAny_bind (wpAny_holding (draw_list hne n (i + 1) _ _ hit₁ (ht.at fun o e => (hs₁.2 t hne).trans e) (by omega) fun h₂ hit₂ hs₂ => wpAny_pure ?_))
    have hd : items.toList.drop i = items[i] :: items.toList.drop (i + 1) := by simp [List.drop_eq_getElem_cons, hlt]
    have := hQ h₂ (by rw [show i + (n + 1) = i + 1 + n by omega]; exact hit₂) (hs₁.trans hs₂)
    rw [hd, List.take_succ_cons] at this
    exact this
theorem unpackItems_list {t : Addr} {items : Array Value} {Q : List Value → Shared → Prop} (hh : A.handled = none) (ht : s.heap.IsList t items)
    (hQ : ∀ h', Heap.ExtBut s.heap.objs.size s.heap h' → Q items.toList { s with heap := h' }) : wpAny (model prog w) A (unpackItems (.ref t) items.size none) Q E s := by
  have hlt : t ≠ s.heap.objs.size := by obtain ⟨o, ho, _⟩ := ht; exact Nat.ne_of_lt (Heap.lt_size ho)
  unfold unpackItems
  refine wpAny_bind ?_
  · unfold notIterableAtAll
    refine wpAny_bind (wpAny_specialOf ht.typeIs slot_list_iter.lookup ?_)
    refine wpAny_pure ?_
    simp only [Bool.false_eq_true, if_false]
    refine wpAny_bind (wpAny_holding (wpAny_pyIter_list ht ?_))
    refine wpAny_bind (wpAny_holding (draw_list hlt items.size 0 _ _ ⟨_, Heap.get?_push_size _ rfl, rfl, rfl⟩ (ht.at fun o e => Heap.get?_push_of_some _ e) (by omega) fun h₁ hit₁ hs₁ => ?_))
    have hall : List.take items.size (List.drop 0 items.toList) = items.toList := by
      rw [List.drop_zero]; exact List.take_of_length_le (by simp)
    rw [hall]
    rw [if_neg (by simp)]
    have ht₁ : h₁.IsList t items := (ht.at fun o e => Heap.get?_push_of_some _ e).at fun o e => (hs₁.2 t hlt).trans e
    refine wpAny_bind (wpAny_holding (wpAny_pyNext_list_end hh hit₁ ht₁ (by simp) fun h₂ he₂ => ?_))
    simp only [Option.isSome_none, Bool.false_eq_true, if_false]
    refine wpAny_pure (hQ h₂ fun b o hb e => he₂ b o hb (hs₁.extBut b o hb (Heap.get?_push_of_some _ e)))
theorem assign_Tuple_list {env : Env} {elts : List Expr} {x1} {pos : Pos} {t : Addr} {items : Array Value} {Q : Unit → Shared → Prop} (hh : A.handled = none) (ht : s.heap.IsList t items)
    (hn : (assignEach elts env).length = items.size) (hstar : (assignEach elts env).findIdx? (·.1) = none)
    (h : ∀ h', Heap.ExtBut s.heap.objs.size s.heap h' → wpAny (model prog w) A (assignInOrder ((assignEach elts env).map (·.2)) items.toList) Q E { s with heap := h' }) :
    wpAny (model prog w) A (assign (.Tuple elts x1 pos) env (.ref t)) Q E s := by
  rw [assign_Tuple]
  refine wpAny_bind (wpAny_standAt ?_)
  unfold unpack
  rw [hn, hstar]
  exact wpAny_bind (wpAny_holding (unpackItems_list hh ht h))
end
section
variable {X : Cx}
theorem pgs_names (hN : X.N.Nodup) : ∀ {es : List Expr} {is : List Nat}, Paired (NameAt X) es is → PGs X es (gAll is)
  | _, _, .nil => pgs_nil.imp fun vs σ H Q ⟨h1, h2⟩ => by
    have : vs = [] := List.length_eq_zero_iff.mp h1
    subst this
    exact ⟨rfl, h2⟩
  | _, _, .cons ⟨x, pos, e, h1, h2, h3⟩ t => by
    subst e
    refine (pgs_cons (pg_name hN h1 h2 h3) (pgs_names hN t) rfl).imp fun vs σ H Q ⟨k1, k2⟩ => ?_
    cases vs with
    | nil => cases k1
    | cons v vs => exact ⟨v, vs, rfl, by simpa using k1, k2⟩
theorem each_names : ∀ {es : List Expr} {is : List Nat}, Paired (NameAt X) es is → (assignEach es X.env).length = is.length ∧ (assignEach es X.env).findIdx? (·.1) = none
  | _, _, .nil => ⟨rfl, rfl⟩
  | _, _, .cons ⟨x, pos, e, _⟩ t => by
    subst e
    obtain ⟨h1, h2⟩ := each_names t
    refine ⟨?_, ?_⟩
    · show (assignEach _ X.env).length + 1 = _
      rw [h1]
      rfl
    · show List.findIdx? (·.1) ((false, _) :: assignEach _ X.env) = none
      rw [List.findIdx?_cons]
      simp only [Bool.false_eq_true, if_false, h2]
      rfl
theorem pg_names {es : List Expr} {is : List Nat} {k : Nat} {pos : Pos} (hc : X.calm = true) (hN : X.N.Nodup) (h : Paired (NameAt X) es is) : PG X (.Tuple es k pos) (gT X.K (.tp is)) := by
  obtain ⟨h1, h2⟩ := each_names h
  refine ⟨fun pins s σ H v u Q I r hw => ?_⟩
  obtain ⟨a, xs, e1, hq | hq, hl, hw⟩ := hw
  · exact (pg_tup hc (pgs_names hN h) h1 h2).run pins s σ H v u Q I r ⟨a, xs, e1, hq, hl, hl, hw⟩
  · subst e1
    cases r
    obtain ⟨its, rv, ht, hz⟩ := I.list hq
    refine assign_Tuple_list (I.ok.hd hc) ht.isList (by simp [h1, ← hl, rv.length]) h2 fun h' hx => ?_
    have I1 : Inv X pins σ H { s with heap := h' } := I.kept (t' := s.toks) fun b o e => hx b o (Nat.ne_of_lt (Heap.lt_size e)) e
    exact (pgs_names hN h).run pins _ σ H xs _ Q I1 (by simpa using rv) ⟨hl, hw⟩
theorem pg_nm {i : Nat} {x : Str} {pos : Pos} (hN : X.N.Nodup) (hi : X.N[i]? = some x) (hx : Loc X.env.scope x) (hf : X.fn x = true ∨ X.env.scope.names.lookup x = some .local) : PG X (.Name x pos) (gT X.K (.nm i)) := pg_name hN hi hx hf
end
section
variable {K : PySem.W.Frag} {cl : Nat → Addr} {μ : List Addr} {G H : Hp} {σ : L2.St} {ρ : List (Option D)}
theorem setAll_rep : ∀ {is : List Nat} {ps : List P} {xs : List V} {σ : L2.St} {ρ ρ' : List (Option D)}, RepS K cl μ G σ ρ → RepL K cl G ps xs → setAll ρ is ps = some ρ' → xs.length = is.length ∧ RepS K cl μ G (setV σ is xs) ρ'
  | [], [], xs, σ, ρ, ρ', r, rl, h => by
    cases h
    rw [show xs = [] from rl]
    exact ⟨rfl, r⟩
  | i :: is, p :: ps, xs, σ, ρ, ρ', r, ⟨v, t, e, r1, r2⟩, h => by
    subst e
    obtain ⟨h1, h2⟩ := setAll_rep (r.set (d := .p p) r1) r2 h
    exact ⟨by simp [h1], h2⟩
  | [], _ :: _, _, _, _, _, _, _, h => by cases h
  | _ :: _, [], _, _, _, _, _, _, h => by cases h
theorem setTg_rep {t : Tg} {p : P} {v : V} {ρ' : List (Option D)} {Q : L2.St → Hp → Prop} (r : RepS K cl μ G σ ρ) (rp : Rep K cl G p v) (g : Gle G H) (h : setTg t p ρ = some ρ') (q : ∀ σ', RepS K cl μ G σ' ρ' → (∀ vs : List Nat, (∀ i ∈ t.names, i ∈ vs) → wipe σ' vs = wipe σ vs) → Q σ' H) : gT K t v σ H Q := by
  have wset : ∀ (i : Nat) (x : Option V) (σ : L2.St) (vs : List Nat), i ∈ vs → wipe (σ.set i x) vs = wipe σ vs := by
    intro i x σ vs
    induction vs with
    | nil => intro h; cases h
    | cons v vs ih =>
      intro h
      unfold wipe
      by_cases e : i = v
      · subst e
        by_cases hi : i ∈ vs
        · rw [ih hi]
        · have : ∀ (σ : L2.St) (vs : List Nat), i ∉ vs → wipe (σ.set i x) vs = (wipe σ vs).set i x := by
            intro σ vs
            induction vs with
            | nil => intro _; rfl
            | cons w ws ih2 =>
              intro hn
              rw [List.mem_cons, not_or] at hn
              show (wipe (σ.set i x) ws).set w none = ((wipe σ ws).set w none).set i x
              rw [ih2 hn.2, List.set_comm _ _ hn.1]
          rw [this σ vs hi, List.set_set]
      · rcases List.mem_cons.mp h with h | h
        · exact absurd h e
        · rw [ih h]
  have thisA : ∀ (vs : List Nat) (is : List Nat) (xs : List V) (σ : L2.St), (∀ i ∈ is, i ∈ vs) → wipe (setV σ is xs) vs = wipe σ vs := by
    intro vs is
    induction is with
    | nil => intro xs σ _; cases xs <;> rfl
    | cons i is ih =>
      intro xs σ h
      cases xs with
      | nil => rfl
      | cons x xs =>
        show wipe (setV (σ.set i (some x)) is xs) vs = _
        rw [ih xs _ fun j hj => h j (List.mem_cons_of_mem _ hj), wset i _ σ vs (h i List.mem_cons_self)]
  cases t with
  | nm i =>
    cases h
    refine q _ (r.set (d := .p p) rp) fun vs hv => wset i _ σ vs (hv i (by simp [Tg.names]))
  | tp is =>
    cases p <;> first | (cases h; done) | skip
    all_goals obtain ⟨a, xs, rfl, ha, rl⟩ := rp
    all_goals obtain ⟨h1, h2⟩ := setAll_rep r rl h
    rotate_left
    · refine ⟨a, xs, rfl, .inr (.inl (.inl (g.ex a (.lst xs) trivial ha))), h1, q _ h2 fun vs hv => ?_⟩
      exact thisA vs is xs σ hv
    refine ⟨a, xs, rfl, .inl (.inl (.inl (g.ex a (.tup xs) trivial ha))), h1, q _ h2 fun vs hv => ?_⟩
    exact thisA vs is xs σ hv
theorem RepS.wipe (r : RepS K cl μ G σ ρ) : ∀ vs : List Nat, RepS K cl μ G (L2.wipe σ vs) (wipeR ρ vs)
  | [] => r
  | v :: vs => (RepS.wipe r vs).forget
theorem wipe_twice (σ : L2.St) (vs : List Nat) : wipe (wipe σ vs) vs = wipe σ vs := by
  apply List.ext_getElem?
  intro i
  by_cases hi : i ∈ vs
  · have : ∀ (τ : L2.St) (ws : List Nat), i ∈ ws → (wipe τ ws)[i]? = if i < τ.length then some none else none := by
      intro τ ws
      induction ws with
      | nil => intro h; cases h
      | cons w ws ih =>
        intro h
        show ((wipe τ ws).set w none)[i]? = _
        by_cases e : w = i
        · subst e
          rw [List.getElem?_set]
          simp [wipe_length]
        · rw [List.getElem?_set_ne e]
          exact ih ((List.mem_cons.mp h).resolve_left fun z => e z.symm)
    rw [this _ _ hi, this _ _ hi, wipe_length]
  · rw [wipe_out hi]
end
/-! ### list comprehensions -/
def WN : WX := fun _ _ _ _ => False
section
variable {X : Cx} {cl : Nat → Addr} {W : WX}
theorem calm_inv {α : Type} {K : PySem.W.Frag} {F μ : List Addr} {S : Sto} {H : Hp} {W : XK} {r : Res α} {β γ : Type} {R : List Addr → Hp → β → γ → Prop} {g : α → Sto → Res β} {Q : γ → Hp → Prop} (h : Sat K cl F μ S H R ((calm r).bind g) W Q) : ∃ a S', r = .ok a S' ∧ Sat K cl F μ S H R (g a S') W Q := by
  cases r with
  | ok a S' => exact ⟨a, S', rfl, h⟩
  | rse _ _ _ _ => exact h.elim
  | bad => exact h.elim
/-- a result that is known -/
theorem sat_ok {K : PySem.W.Frag} {F μ : List Addr} {S S' : Sto} {H : Hp} {W : XK} {α β : Type} {R : List Addr → Hp → α → β → Prop} {r : Res α} {a : α} {Q : β → Hp → Prop} (e : r = .ok a S') (h : ∀ b μ' H', Bears K cl F μ' H' S' → Fra μ S H μ' S' H' → R μ' (Gz F μ' S' H') a b → Q b H') : Sat K cl F μ S H R r W Q := by
  rw [e]
  exact h
theorem lc_imp {bx : Bool} {own : List (Str × Nat)} {tg : Tg} {fs : List (Option D) → Sto → Res (List P)} {fc : List (Option D) → Sto → Res Bool} {fe : List (Option D) → Sto → Res D}
    (hv : ∀ i ∈ tg.names, i ∈ own.map (·.2)) {σ : L2.St} {H : Hp} {Q : VK} (hw : tE X cl W (fun ρ S => (fs ρ S).bind fun items S => (calm (turns (stepL (own.map (·.2)) tg fc fe ρ) items [] S)).bind fun l S => boxIf bx (.lst l) S) σ H Q) :
    tLc (tI X cl W fs) (gT X.K tg) (tT X cl WN fc) (tE X cl WN fe) (own.map (·.2)) σ H Q := by
  obtain ⟨ρ, S, μ, F, B, r, h⟩ := hw
  refine ⟨ρ, S, μ, F, B, r, Sat.mono (Sat.bind h) fun J H1 ⟨items, S1, μ1, B1, f1, wk, h1⟩ D hD => ?_⟩
  have r1 := r.mono f1.pre f1.gle (cl := cl)
  obtain ⟨l, Sf, hl, h1⟩ := calm_inv h1
  obtain ⟨B2, f2, g2⟩ := B1.hideNew (u := .lst []) hD
  have hDF : D ∉ F := fun z => B1.hd D z hD
  have fup : ∀ {μ' : List Addr} {S' : Sto} {H' : Hp} {u : HO}, Fra μ1 S1 H1 μ' S' H' → Fra μ1 S1 H1 μ' S' (upd H' D u) := fun f => ⟨f.pre, fun a u h e => ⟨by rw [upd_ne (ne_of_none e hD)]; exact (f.keep a u h e).1, (f.keep a u h e).2⟩, fun a h => by
    rw [upd_ne (fun e => h (by rw [e]; exact hD))]
    exact f.dom a h⟩
  refine ⟨fun i m H => m = items.length - i ∧ i ≤ items.length ∧ ∃ acc vs S μ, H D = some (.lst vs) ∧ Bears X.K cl (D :: F) μ H S ∧ Fra μ1 S1 H1 μ S H ∧ Gle (Gz F μ1 S1 H1) (Gz (D :: F) μ S H) ∧ RepL X.K cl (Gz (D :: F) μ S H) acc vs ∧
    turns (stepL (own.map (·.2)) tg fc fe ρ) (items.drop i) acc S = .ok l Sf, ⟨items.length, by simp, Nat.zero_le _, [], [], S1, μ1, upd_same, B2, f2, g2, rfl, hl⟩, ?_⟩
  rintro i m H2 ⟨rfl, hle, acc, vs, S2, μ2, hD2, B3, f3, g3, ra, ht2⟩
  obtain ⟨wstop, wgo⟩ := wk i (D :: F) μ2 S2 H2 B3 g3
  by_cases hlt : i < items.length
  · right
    obtain ⟨go, yl⟩ := wgo items[i] (by simp [hlt])
    have hdr : items.drop i = items[i] :: items.drop (i + 1) := (List.getElem_cons_drop hlt).symm
    rw [hdr] at ht2
    obtain ⟨y, S3, hstep, ht3⟩ := bind_inv ht2
    -- what the turn is to reach
    refine ⟨go, fun H' => ∃ acc vs S μ, H' D = some (.lst vs) ∧ Bears X.K cl (D :: F) μ H' S ∧ Fra μ1 S1 H1 μ S H' ∧ Gle (Gz F μ1 S1 H1) (Gz (D :: F) μ S H') ∧ RepL X.K cl (Gz (D :: F) μ S H') acc vs ∧ turns (stepL (own.map (·.2)) tg fc fe ρ) (items.drop (i + 1)) acc S = .ok l Sf,
      fun H' z => ⟨items.length - (i + 1), by omega, rfl, hlt, z⟩, fun x H' yy => ?_⟩
    obtain ⟨B4, f4, rp⟩ := yl x H' yy
    have f34 := f3.trans f4
    have g4 : Gle (Gz F μ1 S1 H1) (Gz (D :: F) μ2 S2 H') := g3.trans f4.gle
    have rs : RepS X.K cl μ2 (Gz (D :: F) μ2 S2 H') (wipe σ (own.map (·.2))) (wipeR ρ (own.map (·.2))) := (r1.mono f34.pre g4 (cl := cl)).wipe _
    have hDk : ∀ {μ' : List Addr} {S' : Sto} {H'' : Hp}, Fra μ2 S2 H2 μ' S' H'' → H'' D = some (.lst vs) := fun f => (f.keep D _ (B3.offhid List.mem_cons_self) hD2).1
    unfold stepL at hstep
    cases hst : setTg tg items[i] (wipeR ρ (own.map (·.2))) with
    | none => rw [hst] at hstep; cases hstep
    | some ρ' =>
      rw [hst] at hstep
      dsimp only at hstep
      obtain ⟨t, S4, hc1, hstep⟩ := bind_inv hstep
      refine setTg_rep rs rp gz_gle hst fun σ' rs' hw => ⟨by rw [hw _ hv, wipe_twice], ⟨ρ', S2, μ2, D :: F, B4, rs', sat_ok hc1 fun b μ4 H4 B5 f5 e5 => ?_⟩⟩
      obtain rfl : t = b := e5
      have f35 := f34.trans f5
      have g5 := g4.trans f5.gle
      cases t with
      | false =>
        simp only [Bool.false_eq_true, if_false] at hstep ⊢
        cases hstep
        exact ⟨acc, vs, S3, μ4, hDk (f4.trans f5), B5, f35, g5, RepL.mono (f4.trans f5).gle _ _ ra, ht3⟩
      | true =>
        simp only [if_true] at hstep ⊢
        obtain ⟨d, S5, he1, hstep⟩ := bind_inv hstep
        obtain ⟨p, S6, hf1, hstep⟩ := bind_inv hstep
        cases hstep
        dsimp only at ht3
        refine ⟨ρ', S4, μ4, D :: F, B5, rs'.mono f5.pre f5.gle, sat_ok he1 fun v μ5 H5 B6 f6 rv => ?_⟩
        obtain ⟨B7, f7, rp7⟩ := frz_ok B6 rv hf1
        have f47 := (f4.trans f5).trans (f6.trans f7)
        have rl := RepL.app (RepL.mono f47.gle _ _ ra) (RepL.one rp7)
        split at ht3
        · rename_i hz
          obtain ⟨B8, eG⟩ := B7.hid (u := .lst (vs ++ [v])) List.mem_cons_self
          have gl : Gle (Gz F μ1 S1 H1) (Gz (D :: F) μ5 S3 H5) := g5.trans (f6.trans f7).gle
          exact ⟨vs, hDk f47, by rw [← ra.len]; exact hz, acc ++ [p], vs ++ [v], S3, μ5, upd_same, B8, fup (f35.trans (f6.trans f7)), by rw [eG]; exact gl, by rw [eG]; exact rl, ht3⟩
        · cases ht3
  · left
    have e : i = items.length := by omega
    subst e
    rw [List.drop_length] at ht2
    cases ht2
    refine ⟨wstop (Nat.le_refl _), ?_⟩
    cases bx with
    | false =>
      obtain ⟨B4, g4⟩ := B3.unhide
      refine h1 (.ref D) μ2 H2 B4 f3 ⟨D, vs, rfl, ?_, RepL.mono g4 _ _ ra⟩
      rw [gz_of (B3.offhid List.mem_cons_self) hDF]
      exact hD2
    | true =>
      have B4 := B3.adopt (o := .lst l) hDF ⟨vs, hD2, ra⟩
      refine h1 (.ref D) (μ2 ++ [D]) H2 B4 ⟨List.IsPrefix.trans f3.pre (List.prefix_append _ _), fun a u h e => ⟨(f3.keep a u h e).1, fun z => ?_⟩, f3.dom⟩ ⟨D, rfl, by rw [← B3.len]; simp⟩
      rcases liv_app B3.len z with z | z
      · exact (f3.keep a u h e).2 z
      · rw [z, hD] at e; cases e
/-! ### dict comprehensions -/
theorem dc_imp {bx : Bool} {own : List (Str × Nat)} {tg : Tg} {fs : List (Option D) → Sto → Res (List P)} {fc : List (Option D) → Sto → Res Bool} {fk fe : List (Option D) → Sto → Res D}
    (hv : ∀ i ∈ tg.names, i ∈ own.map (·.2)) {σ : L2.St} {H : Hp} {Q : VK} (hw : tE X cl W (fun ρ S => (fs ρ S).bind fun items S => (calm (turnsD (stepD (own.map (·.2)) tg fc fk fe ρ) items [] [] S)).bind fun l S => boxIf bx (.dk l.1 l.2) S) σ H Q) :
    tDc (tI X cl W fs) (gT X.K tg) (tT X cl WN fc) (tE X cl WN fk) (tE X cl WN fe) (own.map (·.2)) σ H Q := by
  obtain ⟨ρ, S, μ, F, B, r, h⟩ := hw
  refine ⟨ρ, S, μ, F, B, r, Sat.mono (Sat.bind h) fun J H1 ⟨items, S1, μ1, B1, f1, wk, h1⟩ D hD => ?_⟩
  have r1 := r.mono f1.pre f1.gle (cl := cl)
  obtain ⟨⟨lk, lv⟩, Sf, hl, h1⟩ := calm_inv h1
  obtain ⟨B2, f2, g2⟩ := B1.hideNew (u := .dK []) hD
  have hDF : D ∉ F := fun z => B1.hd D z hD
  have fup : ∀ {μ' : List Addr} {S' : Sto} {H' : Hp} {u : HO}, Fra μ1 S1 H1 μ' S' H' → Fra μ1 S1 H1 μ' S' (upd H' D u) := fun f => ⟨f.pre, fun a u h e => ⟨by rw [upd_ne (ne_of_none e hD)]; exact (f.keep a u h e).1, (f.keep a u h e).2⟩, fun a h => by
    rw [upd_ne (fun e => h (by rw [e]; exact hD))]
    exact f.dom a h⟩
  refine ⟨fun i m H => m = items.length - i ∧ i ≤ items.length ∧ ∃ ak av vs S μ, H D = some (.dK vs) ∧ Bears X.K cl (D :: F) μ H S ∧ Fra μ1 S1 H1 μ S H ∧ Gle (Gz F μ1 S1 H1) (Gz (D :: F) μ S H) ∧ (vs.map (·.1) = ak ∧ RepL X.K cl (Gz (D :: F) μ S H) av (vs.map (·.2))) ∧
    turnsD (stepD (own.map (·.2)) tg fc fk fe ρ) (items.drop i) ak av S = .ok (lk, lv) Sf, ⟨items.length, by simp, Nat.zero_le _, [], [], [], S1, μ1, upd_same, B2, f2, g2, ⟨rfl, rfl⟩, hl⟩, ?_⟩
  rintro i m H2 ⟨rfl, hle, ak, av, vs, S2, μ2, hD2, B3, f3, g3, ⟨rak, ra⟩, ht2⟩
  obtain ⟨wstop, wgo⟩ := wk i (D :: F) μ2 S2 H2 B3 g3
  by_cases hlt : i < items.length
  · right
    obtain ⟨go, yl⟩ := wgo items[i] (by simp [hlt])
    have hdr : items.drop i = items[i] :: items.drop (i + 1) := (List.getElem_cons_drop hlt).symm
    rw [hdr] at ht2
    obtain ⟨y, S3, hstep, ht3⟩ := bind_inv ht2
    -- what the turn is to reach
    refine ⟨go, fun H' => ∃ ak av vs S μ, H' D = some (.dK vs) ∧ Bears X.K cl (D :: F) μ H' S ∧ Fra μ1 S1 H1 μ S H' ∧ Gle (Gz F μ1 S1 H1) (Gz (D :: F) μ S H') ∧ (vs.map (·.1) = ak ∧ RepL X.K cl (Gz (D :: F) μ S H') av (vs.map (·.2))) ∧ turnsD (stepD (own.map (·.2)) tg fc fk fe ρ) (items.drop (i + 1)) ak av S = .ok (lk, lv) Sf,
      fun H' z => ⟨items.length - (i + 1), by omega, rfl, hlt, z⟩, fun x H' yy => ?_⟩
    obtain ⟨B4, f4, rp⟩ := yl x H' yy
    have f34 := f3.trans f4
    have g4 : Gle (Gz F μ1 S1 H1) (Gz (D :: F) μ2 S2 H') := g3.trans f4.gle
    have rs : RepS X.K cl μ2 (Gz (D :: F) μ2 S2 H') (wipe σ (own.map (·.2))) (wipeR ρ (own.map (·.2))) := (r1.mono f34.pre g4 (cl := cl)).wipe _
    have hDk : ∀ {μ' : List Addr} {S' : Sto} {H'' : Hp}, Fra μ2 S2 H2 μ' S' H'' → H'' D = some (.dK vs) := fun f => (f.keep D _ (B3.offhid List.mem_cons_self) hD2).1
    unfold stepD at hstep
    cases hst : setTg tg items[i] (wipeR ρ (own.map (·.2))) with
    | none => rw [hst] at hstep; cases hstep
    | some ρ' =>
      rw [hst] at hstep
      dsimp only at hstep
      obtain ⟨t, S4, hc1, hstep⟩ := bind_inv hstep
      refine setTg_rep rs rp gz_gle hst fun σ' rs' hw => ⟨by rw [hw _ hv, wipe_twice], ⟨ρ', S2, μ2, D :: F, B4, rs', sat_ok hc1 fun b μ4 H4 B5 f5 e5 => ?_⟩⟩
      obtain rfl : t = b := e5
      have f35 := f34.trans f5
      have g5 := g4.trans f5.gle
      cases t with
      | false =>
        simp only [Bool.false_eq_true, if_false] at hstep ⊢
        cases hstep
        exact ⟨ak, av, vs, S3, μ4, hDk (f4.trans f5), B5, f35, g5, ⟨rak, RepL.mono (f4.trans f5).gle _ _ ra⟩, ht3⟩
      | true =>
        simp only [if_true] at hstep ⊢
        obtain ⟨d, S5, hk1, hstep⟩ := bind_inv hstep
        obtain ⟨e, S6, he1, hstep⟩ := bind_inv hstep
        obtain ⟨p, S7, hf1, hstep⟩ := bind_inv hstep
        cases d with
        | box n => cases hstep
        | p q =>
          dsimp only at hstep
          cases hq : keyOf q with
          | none => rw [hq] at hstep; cases hstep
          | some kq =>
            rw [hq] at hstep
            cases hstep
            dsimp only at ht3
            refine ⟨ρ', S4, μ4, D :: F, B5, rs'.mono f5.pre f5.gle, sat_ok hk1 fun vk μ5 H5 B6 f6 rk => ?_⟩
            refine ⟨ρ', S5, μ5, D :: F, B6, (rs'.mono f5.pre f5.gle).mono f6.pre f6.gle, sat_ok he1 fun v μ6 H6 B7 f7 rv => ?_⟩
            obtain ⟨B8, f8, rp8⟩ := frz_ok B7 rv hf1
            have ek : vk = kV kq := key_of hq (vw_rep (G := _) (H := H5) rk gz_gle)
            have f48 := (f4.trans f5).trans (f6.trans (f7.trans f8))
            have rl := put_rep (x := kq) rak (RepL.mono f48.gle _ _ ra) rp8
            split at ht3
            · rename_i hz
              obtain ⟨B9, eG⟩ := B8.hid (u := .dK (putK vs kq v)) List.mem_cons_self
              have gl : Gle (Gz F μ1 S1 H1) (Gz (D :: F) μ6 S3 H6) := g5.trans (f6.trans (f7.trans f8)).gle
              exact ⟨vs, kq, ek, hDk f48, by rw [← rak, List.length_map] at hz; exact hz, _, _, putK vs kq v, S3, μ6, upd_same, B9, fup (f35.trans (f6.trans (f7.trans f8))), by rw [eG]; exact gl, ⟨rl.1, by rw [eG]; exact rl.2⟩, ht3⟩
            · cases ht3
  · left
    have e : i = items.length := by omega
    subst e
    rw [List.drop_length] at ht2
    cases ht2
    refine ⟨wstop (Nat.le_refl _), ?_⟩
    cases bx with
    | false =>
      obtain ⟨B4, g4⟩ := B3.unhide
      refine h1 (.ref D) μ2 H2 B4 f3 ⟨D, vs, rfl, .inl ?_, rak, RepL.mono g4 _ _ ra⟩
      rw [gz_of (B3.offhid List.mem_cons_self) hDF]
      exact hD2
    | true =>
      have B4 := B3.adopt (o := .dk lk lv) hDF ⟨vs, hD2, rak, ra⟩
      refine h1 (.ref D) (μ2 ++ [D]) H2 B4 ⟨List.IsPrefix.trans f3.pre (List.prefix_append _ _), fun a u h e => ⟨(f3.keep a u h e).1, fun z => ?_⟩, f3.dom⟩ ⟨D, rfl, by rw [← B3.len]; simp⟩
      rcases liv_app B3.len z with z | z
      · exact (f3.keep a u h e).2 z
      · rw [z, hD] at e; cases e
theorem ts_nil : PTs X [] (tT X cl WN fun _ S => .ok true S) := pts_nil.imp fun σ H Q ⟨ρ, S, μ, F, B, r, h⟩ => h true μ H B Fra.refl rfl
theorem ts_one {c : Expr} {f : List (Option D) → Sto → Res Bool} (h : PT X c (tT X cl W f)) : PTs X [c] (tT X cl W f) := pts_one h
end
end PD
/-! Lists changed by methods; statements. -/
namespace PD
open PySem L2 PySem.Spec PyProof.Rows
section
variable {X : Cx} {cl : Nat → Addr} {W : WX}
theorem lst_at {K : PySem.W.Frag} {F μ : List Addr} {S : Sto} {H : Hp} {d : D} {v : V} (B : Bears K cl F μ H S) (r : RepD K cl μ (Gz F μ S H) d v) (h : isLst S d = true) : ∃ n a l xs, d = .box n ∧ v = .ref a ∧ μ[n]? = some a ∧ S[n]? = some (some (.lst l)) ∧ H a = some (.lst xs) ∧ RepL K cl (Gz F μ S H) l xs := by
  cases d with
  | p x => cases h
  | box n =>
    obtain ⟨a, rfl, hn⟩ := r
    simp only [isLst] at h
    split at h
    · rename_i l hs
      obtain ⟨xs, e, rl⟩ := B.obj n a _ hn hs
      exact ⟨n, a, l, xs, rfl, rfl, hn, hs, e, rl⟩
    · cases h
theorem few1 {a : Expr} {cpos : Pos} {env : Env} (hs : noStar a = true) : ((backTo cpos (starEach [a] env)).all (fun x => !x.1) && (backToKw cpos (keywordEach [] env)).all (fun x => x.1.isSome)
      && decide (([a] : List Expr).length + ([] : List Keyword).length + (if ([] : List Keyword).isEmpty then 0 else 1) < 30)) = true := by
  rw [star_all (by simp [hs])]
  rfl
theorem e_append {o a : Expr} {apos cpos : Pos} {fo fa : List (Option D) → Sto → Res D} (hb : plainBase o = true) (hs : noStar a = true) (hl : (apos.endLine == cpos.line) = true) (ho : PE X o (tE X cl W fo)) (ha : PE X a (tE X cl W fa)) :
    PE X (.Call (.Attribute o "append" apos) [a] [] cpos) (tE X cl W fun ρ S => (fo ρ S).bind fun d S => if isLst S d = false then .bad else (fa ρ S).bind fun e S => (frz S e).bind fun x S => match d with
      | .box n => match S[n]? with
        | some (some ob) => match mutO .append ob x with
          | some ob' => .ok (.p .non) (S.set n (some ob'))
          | none => .bad
        | _ => .bad
      | .p _ => .bad) := by
  refine (pe_bm PySem.F.plainAttrs_list PySem.F.slot_list_append PySem.F.type_list_append mt_append ho (pa_cons ha pa_nil (star_cons hs)) (base_plain hb) (few1 hs) hl (star_cons hs) rfl).imp fun σ H Q ⟨ρ, S, μ, F, B, r, h⟩ => ?_
  refine stepE B r h fun x H1 d S1 μ1 B1 f1 r1 rd h1 => ?_
  split at h1
  · exact h1.elim
  · rename_i hi
    obtain ⟨n, a, l, xs, rfl, rfl, hn, hs, hH, rl⟩ := lst_at B1 rd (by simpa using hi)
    refine ⟨.inl ⟨rfl, xs, .inl (.inl hH)⟩, stepE B1 r1 h1 fun y H2 e S2 μ2 B2 f2 r2 re h2 => ?_⟩
    obtain ⟨p, S3, e1, l1, B3, f3, q3, h3⟩ := Sat.frz B2 re h2
    have hn3 : μ2[n]? = some a := pre_get f2.pre hn
    cases hs3 : S3[n]? with
    | none => simp only [hs3] at h3; exact h3.elim
    | some oo =>
      cases oo with
      | none => simp only [hs3] at h3; exact h3.elim
      | some ob =>
        simp only [hs3] at h3
        have qo := B3.obj n a ob hn3 hs3
        cases ob <;> first | exact h3.elim | skip
        rename_i l2
        simp only [mutO] at h3
        obtain ⟨xs2, hH2, rl2⟩ := qo
        split at h3
        · rename_i ob' hm
          split at hm
          · rename_i hz
            cases hm
            refine ⟨a, xs2, y, rfl, rfl, hH2, by rw [← rl2.len]; exact hz, ?_⟩
            obtain ⟨B4, f4⟩ := B3.write (x := .lst (l2 ++ [p])) (u := .lst (xs2 ++ [y])) hn3 hs3 ⟨xs2 ++ [y], upd_same, rl2.app (RepL.one q3)⟩
            exact h3 _ μ2 _ B4 f4 rfl
          · cases hm
        · exact h3.elim
theorem e_extend {o a : Expr} {apos cpos : Pos} {fo fa : List (Option D) → Sto → Res D} (hb : plainBase o = true) (hs : noStar a = true) (hl : (apos.endLine == cpos.line) = true) (ho : PE X o (tE X cl W fo)) (ha : PE X a (tE X cl W fa)) :
    PE X (.Call (.Attribute o "extend" apos) [a] [] cpos) (tE X cl W fun ρ S => (fo ρ S).bind fun d S => if isLst S d = false then .bad else (fa ρ S).bind fun e S => (optR (view S e) S).bind fun x S => match d with
      | .box n => match S[n]? with
        | some (some ob) => match mutO .extend ob x with
          | some ob' => .ok (.p .non) (S.set n (some ob'))
          | none => .bad
        | _ => .bad
      | .p _ => .bad) := by
  refine (pe_bm PySem.F.plainAttrs_list PySem.F.slot_list_extend PySem.F.type_list_extend mt_extend ho (pa_cons ha pa_nil (star_cons hs)) (base_plain hb) (few1 hs) hl (star_cons hs) rfl).imp fun σ H Q ⟨ρ, S, μ, F, B, r, h⟩ => ?_
  refine stepE B r h fun x H1 d S1 μ1 B1 f1 r1 rd h1 => ?_
  split at h1
  · exact h1.elim
  · rename_i hi
    obtain ⟨n, a, l, xs, rfl, rfl, hn, hs, hH, rl⟩ := lst_at B1 rd (by simpa using hi)
    refine ⟨.inl ⟨rfl, xs, .inl (.inl hH)⟩, stepE B1 r1 h1 fun y H2 e S2 μ2 B2 f2 r2 re h2 => ?_⟩
    cases hv : view S2 e with
    | none => rw [hv] at h2; exact h2.elim
    | some p =>
      rw [hv] at h2
      have h3 := h2
      simp only [optR, Res.bind] at h3
      have vp := view_vw B2 re hv
      have hn3 : μ2[n]? = some a := pre_get f2.pre hn
      cases hs3 : S2[n]? with
      | none => simp only [hs3] at h3; exact h3.elim
      | some oo =>
        cases oo with
        | none => simp only [hs3] at h3; exact h3.elim
        | some ob =>
          simp only [hs3] at h3
          have qo := B2.obj n a ob hn3 hs3
          cases ob <;> first | exact h3.elim | skip
          rename_i l2
          cases p <;> first | exact h3.elim | skip
          rename_i m
          simp only [mutO] at h3
          obtain ⟨xs2, hH2, rl2⟩ := qo
          obtain ⟨b, zs, rfl, hB, rz⟩ := vp
          split at h3
          · rename_i ob' hm
            split at hm
            · rename_i hz
              cases hm
              refine ⟨a, b, xs2, zs, rfl, rfl, hH2, hB, by rw [← rl2.len, ← rz.len]; exact hz, ?_⟩
              obtain ⟨B4, f4⟩ := B2.write (x := .lst (l2 ++ m)) (u := .lst (xs2 ++ zs)) hn3 hs3 ⟨xs2 ++ zs, upd_same, rl2.app rz⟩
              exact h3 _ μ2 _ B4 f4 rfl
            · cases hm
          · exact h3.elim
/-! ### statements -/
/-- what is wanted of a statement's end -/
def SatO (K : PySem.W.Frag) (cl : Nat → Addr) (F μ : List Addr) (S : Sto) (H : Hp) (W : WX) (E : Ends) : Out → Prop
  | .next ρ S' => ∀ σ' μ' H', Bears K cl F μ' H' S' → Fra μ S H μ' S' H' → RepS K cl μ' (Gz F μ' S' H') σ' ρ → E.nx σ' H'
  | .ret d S' => ∀ v μ' H', Bears K cl F μ' H' S' → Fra μ S H μ' S' H' → RepD K cl μ' (Gz F μ' S' H') d v → E.rt v H'
  | .rse ρ c ns vs S' => ∀ σ' dd μ' H', Bears K cl F μ' H' S' → Fra μ S H μ' S' H' → RepS K cl μ' (Gz F μ' S' H') σ' ρ → XRep K cl (Gz F μ' S' H') H' ns vs dd → W (.ref (cl c)) dd σ' H'
  | .bad => False
def tS (X : Cx) (cl : Nat → Addr) (W : WX) (f : List (Option D) → Sto → Out) : TS := fun E σ H => ∃ ρ S μ F, Bears X.K cl F μ H S ∧ RepS X.K cl μ (Gz F μ S H) σ ρ ∧ SatO X.K cl F μ S H W E (f ρ S)
section
variable {K : PySem.W.Frag} {F μ μ' : List Addr} {S S' : Sto} {H H' : Hp} {E E' : Ends} {σ : L2.St} {ρ : List (Option D)} {r : Out}
theorem SatO.later (f : Fra μ S H μ' S' H') (h : SatO K cl F μ S H W E r) : SatO K cl F μ' S' H' W E r := by
  cases r with
  | next ρ S2 => exact fun σ' μ2 H2 B g rs => h σ' μ2 H2 B (f.trans g) rs
  | ret d S2 => exact fun v μ2 H2 B g rs => h v μ2 H2 B (f.trans g) rs
  | rse ρ c ns vs S2 => exact fun σ' dd μ2 H2 B g rs rx => h σ' dd μ2 H2 B (f.trans g) rs rx
  | bad => exact h
/-- a result, then what goes on with it -/
theorem SatO.out {α β : Type} {R : List Addr → Hp → α → β → Prop} {res : Res α} {g : α → Sto → Out} (rs : RepS K cl μ (Gz F μ S H) σ ρ) (h : SatO K cl F μ S H W E (res.out ρ g)) :
    Sat K cl F μ S H R res (WS W σ) (fun b H1 => ∃ a S1 μ1, Bears K cl F μ1 H1 S1 ∧ Fra μ S H μ1 S1 H1 ∧ R μ1 (Gz F μ1 S1 H1) a b ∧ SatO K cl F μ1 S1 H1 W E (g a S1)) := by
  cases res with
  | ok a S1 => exact fun b μ1 H1 B f rr => ⟨a, S1, μ1, B, f, rr, h.later f⟩
  | rse c ns vs S1 => exact fun dd μ1 H1 B f rx => h σ dd μ1 H1 B f (rs.mono f.pre f.gle) rx
  | bad => exact h
theorem SatO.seq {f : List (Option D) → Sto → Out} (h : SatO K cl F μ S H W E (r.andThen f)) (hrt : E'.rt = E.rt) (hnx : ∀ σ' μ' H' ρ' S', Bears K cl F μ' H' S' → Fra μ S H μ' S' H' → RepS K cl μ' (Gz F μ' S' H') σ' ρ' → SatO K cl F μ' S' H' W E (f ρ' S') → E'.nx σ' H') : SatO K cl F μ S H W E' r := by
  cases r with
  | next ρ S2 => exact fun σ' μ2 H2 B g rs => hnx σ' μ2 H2 ρ S2 B g rs (SatO.later g h)
  | ret d S2 => exact fun v μ2 H2 B g rd => by rw [hrt]; exact h v μ2 H2 B g rd
  | rse ρ c ns vs S2 => exact h
  | bad => exact h
theorem SatO.frz {v : V} {d : D} {g : P → Sto → Out} (B : Bears K cl F μ H S) (r : RepD K cl μ (Gz F μ S H) d v) (rs : RepS K cl μ (Gz F μ S H) σ ρ) (h : SatO K cl F μ S H W E ((frz S d).out ρ g)) : ∃ p S1, frz S d = .ok p S1 ∧ Bears K cl F μ H S1 ∧ Fra μ S H μ S1 H ∧ Rep K cl (Gz F μ S1 H) p v ∧ SatO K cl F μ S1 H W E (g p S1) := by
  have h2 := SatO.out (R := RP K cl) rs h
  have h3 : Sat K cl F μ S H (RP K cl) ((PD.frz S d).bind fun p S => .ok p S) (WS W σ) (fun b H1 => ∃ a S1 μ1, Bears K cl F μ1 H1 S1 ∧ Fra μ S H μ1 S1 H1 ∧ RP K cl μ1 (Gz F μ1 S1 H1) a b ∧ SatO K cl F μ1 S1 H1 W E (g a S1)) := by
    rw [bind_ok]; exact h2
  obtain ⟨p, S1, e1, l1, B1, f1, r1, _⟩ := Sat.frz B r h3
  rw [e1] at h
  exact ⟨p, S1, e1, B1, f1, r1, SatO.later f1 h⟩
end
section
variable {F μ : List Addr} {S : Sto} {H : Hp} {E : Ends} {σ : L2.St} {ρ : List (Option D)}
theorem outE {f : List (Option D) → Sto → Res D} {g : D → Sto → Out} {Q : VK} (B : Bears X.K cl F μ H S) (r : RepS X.K cl μ (Gz F μ S H) σ ρ) (h : SatO X.K cl F μ S H W E ((f ρ S).out ρ g))
    (k : ∀ x H1 d S1 μ1, Bears X.K cl F μ1 H1 S1 → Fra μ S H μ1 S1 H1 → RepS X.K cl μ1 (Gz F μ1 S1 H1) σ ρ → RepD X.K cl μ1 (Gz F μ1 S1 H1) d x → SatO X.K cl F μ1 S1 H1 W E (g d S1) → Q x H1) : tE X cl W f σ H Q :=
  ⟨ρ, S, μ, F, B, r, Sat.mono (SatO.out r h) fun x H1 ⟨d, S1, μ1, B1, f1, r1, h1⟩ => k x H1 d S1 μ1 B1 f1 (r.mono f1.pre f1.gle) r1 h1⟩
theorem outT {f : List (Option D) → Sto → Res Bool} {g : Bool → Sto → Out} {Q : Bool → Hp → Prop} (B : Bears X.K cl F μ H S) (r : RepS X.K cl μ (Gz F μ S H) σ ρ) (h : SatO X.K cl F μ S H W E ((f ρ S).out ρ g))
    (k : ∀ b H1 S1 μ1, Bears X.K cl F μ1 H1 S1 → Fra μ S H μ1 S1 H1 → RepS X.K cl μ1 (Gz F μ1 S1 H1) σ ρ → SatO X.K cl F μ1 S1 H1 W E (g b S1) → Q b H1) : tT X cl W f σ H Q :=
  ⟨ρ, S, μ, F, B, r, Sat.mono (SatO.out (R := RB) r h) fun x H1 ⟨d, S1, μ1, B1, f1, r1, h1⟩ => by
    obtain rfl : d = x := r1
    exact k d H1 S1 μ1 B1 f1 (r.mono f1.pre f1.gle) h1⟩
end
section
variable {st : Stmt} {rest : List Stmt} {pos : Pos} {f g : List (Option D) → Sto → Out}
theorem b_nil : PSs X [] (tS X cl W fun ρ S => .next ρ S) := pss_nil.imp fun E σ H ⟨ρ, S, μ, F, B, r, h⟩ => h σ μ H B Fra.refl r
theorem b_cons (h1 : PS X st (tS X cl W f)) (h2 : PSs X rest (tS X cl W g)) : PSs X (st :: rest) (tS X cl W fun ρ S => (f ρ S).andThen g) := by
  refine (pss_cons h1 h2).imp fun E σ H ⟨ρ, S, μ, F, B, r, h⟩ => ⟨ρ, S, μ, F, B, r, SatO.seq h rfl fun σ' μ' H' ρ' S' B' f' rs h' => ⟨ρ', S', μ', F, B', rs, h'⟩⟩
theorem s_pass : PS X (.Pass pos) (tS X cl W fun ρ S => .next ρ S) := ps_pass.imp fun E σ H ⟨ρ, S, μ, F, B, r, h⟩ => h σ μ H B Fra.refl r
theorem s_bad : PS X st (tS X cl W fun _ _ => .bad) := ps_never.imp fun E σ H ⟨ρ, S, μ, F, B, r, h⟩ => h
theorem s_ex {e : Expr} {fe : List (Option D) → Sto → Res D} (hc : noComp e = true) (he : PE X e (tE X cl W fe)) : PS X (.Expr e pos) (tS X cl W fun ρ S => (fe ρ S).out ρ fun _ S => .next ρ S) :=
  (ps_expr he (swaps_no hc)).imp fun E σ H ⟨ρ, S, μ, F, B, r, h⟩ => outE B r h fun x H1 d S1 μ1 B1 f1 r1 rd h1 => h1 σ μ1 H1 B1 Fra.refl r1
theorem s_ret {e : Expr} {fz : Bool} {fe : List (Option D) → Sto → Res D} (he : PE X e (tE X cl W fe)) : PS X (.Return (some e) pos) (tS X cl W fun ρ S => (fe ρ S).out ρ fun d S => if fz then (frz S d).out ρ fun p S => .ret (.p p) S else .ret d S) := by
  refine (ps_ret he).imp fun E σ H ⟨ρ, S, μ, F, B, r, h⟩ => outE B r h fun x H1 d S1 μ1 B1 f1 r1 rd h1 => ?_
  cases fz with
  | true =>
    obtain ⟨p, S2, e1, B2, f2, rp, h2⟩ := SatO.frz B1 rd r1 h1
    exact h2 x μ1 H1 B2 Fra.refl rp
  | false => exact h1 x μ1 H1 B1 Fra.refl rd
theorem s_retN : PS X (.Return none pos) (tS X cl W fun _ S => .ret (.p .non) S) := ps_retN.imp fun E σ H ⟨ρ, S, μ, F, B, r, h⟩ => h .non μ H B Fra.refl rfl
theorem s_if {c : Expr} {a b : List Stmt} {fc : List (Option D) → Sto → Res Bool} (hc : PT X c (tT X cl W fc)) (ha : PSs X a (tS X cl W f)) (hb : PSs X b (tS X cl W g)) : PS X (.If c a b pos) (tS X cl W fun ρ S => (fc ρ S).out ρ fun t S => if t then f ρ S else g ρ S) := by
  refine (ps_if hc ha hb).imp fun E σ H ⟨ρ, S, μ, F, B, r, h⟩ => outT B r h fun b H1 S1 μ1 B1 f1 r1 h1 => ?_
  cases b with
  | true => exact ⟨ρ, S1, μ1, F, B1, r1, h1⟩
  | false => exact ⟨ρ, S1, μ1, F, B1, r1, h1⟩
theorem s_set {i : Nat} {x : Str} {e : Expr} {pos' : Pos} {fe : List (Option D) → Sto → Res D} (hp : PS X (.Assign [.Name x pos'] e pos) (tAsg (tE X cl W fe) (gName i))) :
    PS X (.Assign [.Name x pos'] e pos) (tS X cl W fun ρ S => (fe ρ S).out ρ fun d S => .next (ρ.set i (some d)) S) := by
  refine hp.imp fun E σ H ⟨ρ, S, μ, F, B, r, h⟩ => outE B r h fun x H1 d S1 μ1 B1 f1 r1 rd h1 => ?_
  exact h1 _ μ1 H1 B1 Fra.refl (r1.set rd)
theorem s_tp {tg e : Expr} {is : List Nat} {fe : List (Option D) → Sto → Res D} (hp : PS X (.Assign [tg] e pos) (tAsg (tE X cl W fe) (gT X.K (.tp is)))) :
    PS X (.Assign [tg] e pos) (tS X cl W fun ρ S => (fe ρ S).out ρ fun d S => match d with
      | .p x => match setTg (.tp is) x ρ with
        | some ρ => .next ρ S
        | none => .bad
      | .box _ => .bad) := by
  refine hp.imp fun E σ H ⟨ρ, S, μ, F, B, r, h⟩ => outE B r h fun x H1 d S1 μ1 B1 f1 r1 rd h1 => ?_
  cases d with
  | box n => exact h1.elim
  | p y =>
    dsimp only at h1
    cases hst : setTg (.tp is) y ρ with
    | none => rw [hst] at h1; exact h1.elim
    | some ρ' =>
      rw [hst] at h1
      exact setTg_rep r1 rd gz_gle hst fun σ' rs' _ => h1 σ' μ1 H1 B1 Fra.refl rs'
theorem s_par {i j : Nat} {fa fb : List (Option D) → Sto → Res D} (hp : PS X st (tPar i j (tCons (tE X cl W fa) (tCons (tE X cl W fb) tNil)))) :
    PS X st (tS X cl W fun ρ S => (fa ρ S).out ρ fun d S => (fb ρ S).out ρ fun e S => if i = j then .bad else .next ((ρ.set i (some d)).set j (some e)) S) := by
  refine hp.imp fun E σ H ⟨ρ, S, μ, F, B, r, h⟩ => outE B r h fun x H1 d S1 μ1 B1 f1 r1 rd h1 => outE B1 r1 h1 fun y H2 e S2 μ2 B2 f2 r2 re h2 => ?_
  split at h2
  · exact h2.elim
  · exact ⟨x, y, rfl, h2 _ μ2 H2 B2 Fra.refl ((r2.set (rd.mono f2.pre f2.gle)).set re)⟩
theorem s_par3 {i j l : Nat} {fa fb fc : List (Option D) → Sto → Res D} (hp : PS X st (tPar3 i j l (tCons (tE X cl W fa) (tCons (tE X cl W fb) (tCons (tE X cl W fc) tNil))))) :
    PS X st (tS X cl W fun ρ S => (fa ρ S).out ρ fun d S => (fb ρ S).out ρ fun e S => (fc ρ S).out ρ fun g S => if i = j ∨ i = l ∨ j = l then .bad else .next (((ρ.set i (some d)).set j (some e)).set l (some g)) S) := by
  refine hp.imp fun E σ H ⟨ρ, S, μ, F, B, r, h⟩ => outE B r h fun x H1 d S1 μ1 B1 f1 r1 rd h1 => outE B1 r1 h1 fun y H2 e S2 μ2 B2 f2 r2 re h2 => outE B2 r2 h2 fun z H3 q S3 μ3 B3 f3 r3 rq h3 => ?_
  split at h3
  · exact h3.elim
  · exact ⟨x, y, z, rfl, h3 _ μ3 H3 B3 Fra.refl (((r3.set ((rd.mono f2.pre f2.gle).mono f3.pre f3.gle)).set (re.mono f3.pre f3.gle)).set rq)⟩
end
end
end PD
/-! More statements: op=, o[k] = v, o.f = v, loops; a def by its body. -/
namespace PD
open PySem L2 PySem.Spec PyProof.Rows
section
variable {X : Cx} {cl : Nat → Addr} {W : WX} {st : Stmt} {pos : Pos} {f g : List (Option D) → Sto → Out}
/-! ### op= at a name -/
def flatV : P → V
  | .int i => .int i
  | .str s => .str s
  | _ => .non
def rAug (o : Op2) : V → V → Hp → VK → Prop := fun x y H Q => ∃ p q z, augP o p q = some z ∧ x = flatV p ∧ y = flatV q ∧ Q (flatV z) H
theorem aug_flat {o : Op2} {p q z : P} (h : augP o p q = some z) : (∀ {K : PySem.W.Frag} {G : Hp}, Rep K cl G z (flatV z)) ∧ (∀ {K : PySem.W.Frag} {G : Hp} {v : V}, Rep K cl G p v → v = flatV p) ∧ (∀ {K : PySem.W.Frag} {G : Hp} {v : V}, Rep K cl G q v → v = flatV q) := by
  cases p <;> cases q <;> first | (cases h; done) | skip
  · refine ⟨fun {K G} => ?_, fun r => r, fun r => r⟩
    cases o <;> first | (cases h; done) | skip
    all_goals simp only [augP, prim2] at h
    · cases h; rfl
    · cases h; rfl
    · split at h
      · cases h; rfl
      · cases h
    · split at h
      · cases h; rfl
      · split at h
        · cases h; rfl
        · cases h
  · refine ⟨fun {K G} => ?_, fun r => r, fun r => r⟩
    cases o <;> first | (cases h; done) | skip
    simp only [augP, prim2] at h
    split at h
    · cases h; rfl
    · cases h
theorem ip_aug {o : Op2} {op : Operator} (ho : opOf op = some o) : PIp X op (rAug o) := by
  intro pins s σ H x y v u Q I rx ry h
  obtain ⟨p, q, z, hz, rfl, rfl, h⟩ := h
  cases p <;> cases q <;> first | (cases hz; done) | skip
  · obtain ⟨t, rfl⟩ := rx
    obtain ⟨t', rfl⟩ := ry
    cases op <;> simp only [opOf] at ho <;> cases ho <;> first | (cases hz; done) | skip
    all_goals simp only [augP, prim2] at hz
    · cases hz
      exact iadd_int ⟨.int _, H, I.tok _, ⟨_, rfl⟩, h⟩
    · cases hz
      exact isub_int ⟨.int _, H, I.tok _, ⟨_, rfl⟩, h⟩
    · split at hz
      · rename_i hc
        cases hz
        exact imul_int ⟨.int _, H, I.tok _, ⟨_, rfl⟩, h⟩ (CMulW.ok hc)
      · cases hz
    · split at hz
      · rename_i hc
        cases hz
        refine imod_int (by omega) ?_
        rw [Int.fmod_eq_emod_of_nonneg _ (by omega)]
        exact ⟨.int _, H, I.tok _, ⟨_, rfl⟩, h⟩
      · split at hz
        · rename_i hc
          cases hz
          exact imod_int hc ⟨.int _, H, I.tok _, ⟨_, rfl⟩, h⟩
        · cases hz
  · cases op <;> simp only [opOf] at ho <;> cases ho <;> first | (cases hz; done) | skip
    simp only [augP, prim2] at hz
    split at hz
    · cases hz
      exact iop_add_str pins s σ H _ _ v u Q I rx ry ⟨_, _, rfl, rfl, by assumption, h⟩
    · cases hz
theorem s_aug {o : Op2} {i : Nat} {fe : List (Option D) → Sto → Res D} (hp : PS X st (tAug i (tE X cl W fe) (rAug o))) :
    PS X st (tS X cl W fun ρ S => match ρ[i]? with
      | some (some (.p x)) => (fe ρ S).out ρ fun d S => match d with
        | .p y => match augP o x y with
          | some z => .next (ρ.set i (some (.p z))) S
          | none => .bad
        | _ => .bad
      | _ => .bad) := by
  refine hp.imp fun E σ H ⟨ρ, S, μ, F, B, r, h⟩ => ?_
  dsimp only at h
  split at h
  · rename_i x hx
    obtain ⟨v, hv, rv⟩ := r.2 i _ hx
    refine ⟨v, hv, outE B r h fun y H1 d S1 μ1 B1 f1 r1 rd h1 => ?_⟩
    cases d with
    | box n => exact h1.elim
    | p q =>
      dsimp only at h1
      cases ha : augP o x q with
      | none => rw [ha] at h1; exact h1.elim
      | some z =>
        rw [ha] at h1
        obtain ⟨a1, a2, a3⟩ := aug_flat (cl := cl) ha
        exact ⟨x, q, z, ha, a2 rv, a3 rd, h1 _ μ1 H1 B1 Fra.refl (r1.set (d := .p z) a1)⟩
  · exact h.elim
theorem s_auge {i : Nat} {fe : List (Option D) → Sto → Res D} (hp : PS X st (tAug i (tE X cl W fe) rExt2)) :
    PS X st (tS X cl W fun ρ S => match ρ[i]? with
      | some (some (.box n)) => (fe ρ S).out ρ fun d S => match view S d with
        | some x => match S[n]? with
          | some (some ob) => match mutO .extend ob x with
            | some ob' => .next ρ (S.set n (some ob'))
            | none => .bad
          | _ => .bad
        | none => .bad
      | _ => .bad) := by
  refine hp.imp fun E σ H ⟨ρ, S, μ, F, B, r, h⟩ => ?_
  dsimp only at h
  split at h
  · rename_i n hx
    obtain ⟨v, hv, a, rfl, hn⟩ := r.2 i _ hx
    refine ⟨.ref a, hv, outE B r h fun y H1 d S1 μ1 B1 f1 r1 rd h1 => ?_⟩
    cases hw : view S1 d with
    | none => simp only [hw] at h1; exact h1.elim
    | some x =>
      simp only [hw] at h1
      have vp := view_vw B1 rd hw
      have hn1 : μ1[n]? = some a := pre_get f1.pre hn
      cases hs : S1[n]? with
      | none => simp only [hs] at h1; exact h1.elim
      | some oo =>
        cases oo with
        | none => simp only [hs] at h1; exact h1.elim
        | some ob =>
          simp only [hs] at h1
          have qo := B1.obj n a ob hn1 hs
          cases ob <;> first | exact h1.elim | skip
          rename_i l2
          cases x <;> first | exact h1.elim | skip
          rename_i m
          simp only [mutO] at h1
          obtain ⟨xs2, hH2, rl2⟩ := qo
          obtain ⟨b, zs, rfl, hB, rz⟩ := vp
          split at h1
          · rename_i ob' hm
            split at hm
            · rename_i hz
              cases hm
              refine ⟨a, b, xs2, zs, rfl, rfl, hH2, hB, by rw [← rl2.len, ← rz.len]; exact hz, ?_⟩
              obtain ⟨B4, f4⟩ := B1.write (x := .lst (l2 ++ m)) (u := .lst (xs2 ++ zs)) hn1 hs ⟨xs2 ++ zs, upd_same, rl2.app rz⟩
              have r4 := r1.mono f4.pre f4.gle (cl := cl)
              refine h1 _ μ1 _ B4 f4 ⟨by rw [List.length_set]; exact r4.1, fun j d' e' => ?_⟩
              by_cases c : i = j
              · subst c
                rw [hx] at e'
                cases e'
                exact ⟨.ref a, List.getElem?_set_self ((List.getElem?_eq_some_iff.mp hv).1), a, rfl, hn1⟩
              · rw [List.getElem?_set_ne c]
                exact r4.2 j d' e'
            · cases hm
          · exact h1.elim
  · exact h.elim
/-! ### o[k] = v -/
def rSet : TSet := fun o i v H Q => rSetL o i v H Q ∨ ∃ a H', o = .ref a ∧ DPut H a i v H' ∧ Q H'
theorem set_any (hu : X.A.units + 66 < cLine) : PSet X rSet := by
  intro pins s σ H o i v ov iv u Q I ro ri rv h
  rcases h with h | ⟨a, H', rfl, hp, q⟩
  · exact set_list pins s σ H o i v ov iv u Q I ro ri rv h
  · obtain rfl : ov = Value.ref a := ro
    exact d_setItem (by omega) I hp ri rv fun s4 I4 => ⟨H', I4, q⟩
theorem set_step {K : PySem.W.Frag} {F μ : List Addr} {S : Sto} {H : Hp} {n : Nat} {a : Addr} {ob ob' : O} {kx x : P} {i v : V} {Q : Hp → Prop} (B : Bears K cl F μ H S) (hn : μ[n]? = some a) (hs : S[n]? = some (some ob)) (rk : Rep K cl (Gz F μ S H) kx i) (rx : Rep K cl (Gz F μ S H) x v)
    (h : setO ob kx x = some ob') (k : ∀ H', Bears K cl F μ H' (S.set n (some ob')) → Fra μ S H μ (S.set n (some ob')) H' → Q H') : rSet (.ref a) i v H Q := by
  have qo := B.obj n a ob hn hs
  cases ob with
  | ins c ns vs => cases h
  | lst l =>
    cases kx <;> first | (cases h; done) | skip
    rename_i z
    obtain ⟨j, hj, rfl⟩ := Option.map_eq_some_iff.mp h
    obtain ⟨xs, hH, rl⟩ := qo
    obtain ⟨B4, f4⟩ := B.write (x := .lst (l.set j x)) (u := .lst (xs.set j v)) hn hs ⟨xs.set j v, upd_same, rl.set rx j⟩
    exact .inl ⟨a, xs, z, j, rfl, rk, hH, by rw [← rl.len]; exact hj, k _ B4 f4⟩
  | dk ks vs =>
    simp only [setO] at h
    obtain ⟨kk, hk, h⟩ := Option.bind_eq_some_iff.mp h
    split at h
    · rename_i hz
      cases h
      obtain ⟨kvs, hH, ek, rl⟩ := qo
      have ei := key_of hk (vw_rep rk gz_gle)
      subst ei
      have pr := put_rep (x := kk) ek rl rx
      obtain ⟨B4, f4⟩ := B.write (x := .dk (putv ks vs kk x).1 (putv ks vs kk x).2) (u := .dK (putK kvs kk v)) hn hs ⟨_, upd_same, pr.1, pr.2⟩
      exact .inr ⟨a, _, rfl, .k hH (by rw [← ek, List.length_map] at hz; exact hz), k _ B4 f4⟩
    · cases h
  | dt ks vs =>
    simp only [setO] at h
    obtain ⟨kk, hk, h⟩ := Option.bind_eq_some_iff.mp h
    split at h
    · rename_i hz
      cases h
      obtain ⟨kvs, hH, ek, rl⟩ := qo
      cases kx <;> first | (cases hk; done) | skip
      obtain ⟨b, ys, rfl, hb, rb⟩ := rk
      have ei := keys_of hk rb
      subst ei
      have pr := put_rep (x := kk) ek rl rx
      obtain ⟨B4, f4⟩ := B.write (x := .dt (putv ks vs kk x).1 (putv ks vs kk x).2) (u := .dT (putK kvs kk v)) hn hs ⟨_, upd_same, pr.1, pr.2⟩
      exact .inr ⟨a, _, rfl, .t hH (gz_gle.ex b (.tup _) trivial hb) (by rw [← ek, List.length_map] at hz; exact hz), k _ B4 f4⟩
    · cases h
theorem swaps_sub {e o i : Expr} {p : Pos} {l : Nat} {env : Env} : swapsWith e (some (.Subscript o i p)) l env = pure false := by cases e <;> rfl
theorem swaps_att {e o : Expr} {f : Str} {p : Pos} {l : Nat} {env : Env} : swapsWith e (some (.Attribute o f p)) l env = pure false := by cases e <;> rfl
theorem swaps_tup {e : Expr} {es : List Expr} {k : Nat} {p : Pos} {l : Nat} {env : Env} : swapsWith e (some (.Tuple es k p)) l env = pure false := by cases e <;> rfl
theorem swst_sub {e o i : Expr} {p : Pos} {env : Env} : swappedStores [.Subscript o i p] e env = pure none := by cases e <;> rfl
theorem asg_sub {o i : Expr} {p : Pos} {env : Env} {v : Value} (h : noSlice i = true) : assign (.Subscript o i p) env v = (do
      let ov ← holding [v] (eval o env)
      let iv ← holding [v, ov] (eval i env)
      standAt p
      holding [v, ov, iv] (setItem ov iv v)
      release [v, ov, iv] []) := by
  cases i <;> first | rfl | cases h
theorem aug_store {i : Expr} {ov iv new : Value} (h : noSlice i = true) : augStore i ov iv new = (do holding [new, ov, iv] (setItem ov iv new); release [new, ov, iv] []; pure .next) := by
  cases i <;> first | rfl | cases h
theorem s_ixset (hu : X.A.units + 66 < cLine) {o k v : Expr} {p : Pos} {fo fk fv : List (Option D) → Sto → Res D} (hns : noSlice k = true) (ho : PE X o (tE X cl W fo)) (hk : PE X k (tE X cl W fk)) (hv : PE X v (tE X cl W fv)) :
    PS X (.Assign [.Subscript o k p] v pos) (tS X cl W fun ρ S => (fv ρ S).out ρ fun dv S => (frz S dv).out ρ fun x S => (fo ρ S).out ρ fun d S => (fk ρ S).out ρ fun dk S => match d, dk with
    | .box n, .p kx => match S[n]? with
      | some (some ob) => match setO ob kx x with
        | some ob' => .next ρ (S.set n (some ob'))
        | none => .bad
      | _ => .bad
    | _, _ => .bad) := by
  refine (ps_asg hv (pg_sub ho hk (set_any hu) fun _ => asg_sub hns) (swaps_sub : swapsWith v (some (.Subscript o k p)) pos.line X.env = pure false) swst_sub).imp fun E σ H ⟨ρ, S, μ, F, B, r, h⟩ => outE B r h fun x H1 dv S1 μ1 B1 f1 r1 rv h1 => ?_
  obtain ⟨p, S2, e2, B2, f2, rp, h2⟩ := SatO.frz B1 rv r1 h1
  have r2 := r1.mono f2.pre f2.gle (cl := cl)
  refine outE B2 r2 h2 fun y H3 d S3 μ3 B3 f3 r3 rd h3 => outE B3 r3 h3 fun z H4 dk S4 μ4 B4 f4 r4 rk h4 => ?_
  cases d with
  | p q => exact h4.elim
  | box n =>
    cases dk with
    | box m => exact h4.elim
    | p kx =>
      dsimp only at h4
      obtain ⟨a, rfl, hn⟩ := rd
      have hn4 : μ4[n]? = some a := pre_get f4.pre hn
      cases hs : S4[n]? with
      | none => simp only [hs] at h4; exact h4.elim
      | some oo =>
        cases oo with
        | none => simp only [hs] at h4; exact h4.elim
        | some ob =>
          simp only [hs] at h4
          cases hso : setO ob kx p with
          | none => rw [hso] at h4; exact h4.elim
          | some ob' =>
            rw [hso] at h4
            refine set_step B4 hn4 hs rk (Rep.mono f4.gle _ _ (Rep.mono f3.gle _ _ rp)) hso fun H5 B5 f5 => ?_
            exact h4 σ μ4 H5 B5 f5 (r4.mono f5.pre f5.gle)
/-! ### o[k] op= v -/
def rGet (K : PySem.W.Frag) : V → V → Hp → VK → Prop := fun o i H Q => (∃ a xs k w, o = .ref a ∧ i = .int k ∧ SqL K H a xs ∧ atI xs k = some w ∧ Q w H) ∨ ∃ a w, o = .ref a ∧ DGet H a i (some w) ∧ Q w H
theorem ixN_cases {n : Nat} {k : Int} {j : Nat} (h : ixN n k = some j) : (0 ≤ k ∧ k < n ∧ j = k.toNat) ∨ (k < 0 ∧ -(n : Int) ≤ k ∧ j = (k + n).toNat) := by
  unfold ixN at h
  by_cases h0 : 0 ≤ k
  · rw [if_pos h0] at h
    by_cases h1 : k < n
    · rw [if_pos h1] at h
      exact .inl ⟨h0, h1, (Option.some.inj h).symm⟩
    · rw [if_neg h1] at h; cases h
  · rw [if_neg h0] at h
    by_cases h1 : -(n : Int) ≤ k
    · rw [if_pos h1] at h
      exact .inr ⟨by omega, h1, (Option.some.inj h).symm⟩
    · rw [if_neg h1] at h; cases h
theorem get_any (hu : X.A.units + 66 < cLine) : PGet X (rGet X.K) := by
  intro pins s σ H o i ov iv Q I ro ri h
  rcases h with ⟨a, xs, k, w, rfl, rfl, hq, hat, q⟩ | ⟨a, w, rfl, hd, q⟩
  · obtain rfl : ov = Value.ref a := ro
    obtain ⟨t, rfl⟩ := ri
    obtain ⟨its, rv, p, hz⟩ := I.list hq
    have hl := rv.length
    have hn := line63
    unfold atI at hat
    cases hi : ixN xs.length k with
    | none => rw [hi] at hat; cases hat
    | some j =>
      rw [hi] at hat
      obtain ⟨u, hu2, ru⟩ := rv.get hat
      have fin : EP X pins σ Q u s := ⟨w, H, I, ru, q⟩
      rcases ixN_cases hi with ⟨h0, h1, hk⟩ | ⟨h0, h1, hk⟩
      · exact wpAny_getItem_list p.isList h0 (by omega) (x := u) (by rw [← hk]; simpa using hu2) fin
      · exact wpAny_getItem_list_neg p.isList h0 (by rw [List.size_toArray, ← hl]; exact h1) (by omega) (x := u) (by rw [List.size_toArray, ← hl, ← hk]; simpa using hu2) fin
  · obtain rfl : ov = Value.ref a := ro
    exact d_getItem (by omega) I hd ri fun w' s3 I3 rw' => ⟨w, H, I3, rw', q⟩
theorem s_ixaug (hu : X.A.units + 66 < cLine) {q : Op2} {op : Operator} (hop : opOf op = some q) {o k v : Expr} {p : Pos} {fo fk fv : List (Option D) → Sto → Res D} (hns : noSlice k = true) (ho : PE X o (tE X cl W fo)) (hk : PE X k (tE X cl W fk)) (hv : PE X v (tE X cl W fv)) :
    PS X (.AugAssign (.Subscript o k p) op v pos) (tS X cl W fun ρ S => (fo ρ S).out ρ fun d S => (fk ρ S).out ρ fun dk S => match d, dk with
    | .box n, .p kx => match (view S d).bind fun ob => prim2 .ix ob kx with
      | some old => (fv ρ S).out ρ fun dv S => match dv with
        | .p y => match augP q old y, S[n]? with
          | some z, some (some ob) => match setO ob kx z with
            | some ob' => .next ρ (S.set n (some ob'))
            | none => .bad
          | _, _ => .bad
        | _ => .bad
      | none => .bad
    | _, _ => .bad) := by
  refine (ps_augS ho hk (get_any hu) hv (ip_aug hop) (set_any hu) fun _ _ _ => aug_store hns).imp fun E σ H ⟨ρ, S, μ, F, B, r, h⟩ => ?_
  refine outE B r h fun y H3 d S3 μ3 B3 f3 r3 rd h3 => outE B3 r3 h3 fun z H4 dk S4 μ4 B4 f4 r4 rk h4 => ?_
  cases d with
  | p q => exact h4.elim
  | box n =>
    cases dk with
    | box m => exact h4.elim
    | p kx =>
      dsimp only at h4
      obtain ⟨a, rfl, hn⟩ := rd
      have hn4 : μ4[n]? = some a := pre_get f4.pre hn
      cases ho : (view S4 (.box n)).bind fun ob => prim2 .ix ob kx with
      | none => rw [ho] at h4; exact h4.elim
      | some old =>
        rw [ho] at h4
        dsimp only at h4
        obtain ⟨ob, hvw, hix⟩ := Option.bind_eq_some_iff.mp ho
        have vb := view_vw (d := .box n) (v := .ref a) B4 ⟨a, rfl, hn4⟩ hvw
        -- what goes on with the old item
        have go : ∀ w, Rep X.K cl (Gz F μ4 S4 H4) old w → tE X cl W fv σ H4 fun y H5 => rAug q w y H5 fun z' H6 => rSet (.ref a) z z' H6 fun H7 => E.nx σ H7 := fun w rw' => by
          refine outE B4 r4 h4 fun y H5 dv S5 μ5 B5 f5 r5 rv h5 => ?_
          cases dv with
          | box m => exact h5.elim
          | p yv =>
            dsimp only at h5
            cases ha : augP q old yv with
            | none => rw [ha] at h5; exact h5.elim
            | some zz =>
              rw [ha] at h5
              obtain ⟨a1, a2, a3⟩ := aug_flat (cl := cl) ha
              refine ⟨old, yv, zz, ha, a2 rw', a3 rv, ?_⟩
              have hn5 : μ5[n]? = some a := pre_get f5.pre hn4
              cases hs : S5[n]? with
              | none => simp only [hs] at h5; exact h5.elim
              | some oo =>
                cases oo with
                | none => simp only [hs] at h5; exact h5.elim
                | some ob2 =>
                  simp only [hs] at h5
                  cases hso : setO ob2 kx zz with
                  | none => rw [hso] at h5; exact h5.elim
                  | some ob' =>
                    rw [hso] at h5
                    refine set_step B5 hn5 hs (Rep.mono f5.gle _ _ rk) a1 hso fun H6 B6 f6 => ?_
                    exact h5 σ μ5 H6 B6 f6 (r5.mono f6.pre f6.gle)
        cases ob <;> first | (cases kx <;> (cases hix; done)) | skip
        · simp only [view] at hvw
          split at hvw
          · rename_i o2 _
            cases o2 <;> simp only [cont] at hvw <;> first | (cases hvw; done) | (obtain ⟨_, _, hvw⟩ := Option.map_eq_some_iff.mp hvw; cases hvw)
          · cases hvw
        · simp only [view] at hvw
          split at hvw
          · rename_i o2 _
            cases o2 <;> simp only [cont] at hvw <;> first | (cases hvw; done) | (obtain ⟨_, _, hvw⟩ := Option.map_eq_some_iff.mp hvw; cases hvw)
          · cases hvw
        · cases kx <;> first | (cases hix; done) | skip
          obtain ⟨b, xs, e, hb, rl⟩ := vb
          cases e
          obtain ⟨w, hw, rw'⟩ := atI_rep rl hix
          exact .inl ⟨a, xs, _, w, rfl, rk, .inl (.inl hb), hw, go w rw'⟩
        · simp only [view] at hvw
          split at hvw
          · rename_i o2 _
            cases o2 <;> simp only [cont] at hvw <;> first | (cases hvw; done) | (obtain ⟨_, _, hvw⟩ := Option.map_eq_some_iff.mp hvw; cases hvw)
          · cases hvw
        · simp only [view] at hvw
          split at hvw
          · rename_i o2 _
            cases o2 <;> simp only [cont] at hvw <;> first | (cases hvw; done) | (obtain ⟨_, _, hvw⟩ := Option.map_eq_some_iff.mp hvw; cases hvw)
          · cases hvw
        · have e : ∀ ks vs, prim2 .ix (.dk ks vs) kx = (keyOf kx).bind (look ks vs) := fun ks vs => by cases kx <;> rfl
          rw [e] at hix
          obtain ⟨kk, hk, hl⟩ := Option.bind_eq_some_iff.mp hix
          obtain ⟨b, kvs, e2, hb, ek, rl⟩ := vb
          cases e2
          have ei := key_of hk (vw_rep rk gz_gle)
          subst ei
          obtain ⟨w, hw, rw'⟩ := (look_val (x := kk) ek rl).1 _ hl
          exact .inr ⟨a, w, rfl, .inl ⟨kvs, kk, hb, rfl, hw.symm⟩, go w rw'⟩
        · have e : ∀ ks vs, prim2 .ix (.dt ks vs) kx = (tkeyOf kx).bind (look ks vs) := fun ks vs => by cases kx <;> rfl
          rw [e] at hix
          obtain ⟨kk, hk, hl⟩ := Option.bind_eq_some_iff.mp hix
          obtain ⟨b, kvs, e2, hb, ek, rl⟩ := vb
          cases e2
          cases kx <;> first | (cases hk; done) | skip
          obtain ⟨c, ys, rfl, hc, rc⟩ := rk
          have ei := keys_of hk rc
          subst ei
          obtain ⟨w, hw, rw'⟩ := (look_val (x := kk) ek rl).1 _ hl
          exact .inr ⟨a, w, rfl, .inr ⟨kvs, kk, c, hb, rfl, gz_gle.ex c (.tup _) trivial hc, hw.symm⟩, go w rw'⟩
/-! ### o.f = v -/
theorem putF_rep {K : PySem.W.Frag} {μ : List Addr} {G : Hp} {f : Str} {dv : D} {y : V} (rv : RepD K cl μ G dv y) : ∀ {ys : List (Str × V)} {ns : List Str} {vs : List D}, ys.map (·.1) = ns → RepDL K cl μ G vs (ys.map (·.2)) → ns.Nodup →
    (match (ns.zip vs).lookup f with
      | some _ => (putF f y ys).map (·.1) = ns ∧ RepDL K cl μ G ((ns.zip vs).map fun kv => if kv.1 = f then dv else kv.2) ((putF f y ys).map (·.2))
      | none => (putF f y ys).map (·.1) = ns ++ [f] ∧ RepDL K cl μ G (vs ++ [dv]) ((putF f y ys).map (·.2)))
  | [], ns, vs, h, r, nd => by
    cases h
    have : vs = [] := by cases vs with | nil => rfl | cons _ _ => obtain ⟨_, _, e, _⟩ := r; cases e
    subst this
    exact ⟨rfl, y, [], rfl, rv, rfl⟩
  | (n, v) :: ys, ns, vs, h, r, nd => by
    cases h
    cases vs with
    | nil => cases (show (v :: _ : List V) = [] from r)
    | cons q0 vs =>
      obtain ⟨v', t, e, r1, r2⟩ := r
      cases e
      have nd' := List.nodup_cons.mp nd
      have ih := putF_rep (f := f) rv (ys := ys) rfl r2 nd'.2
      have e0 : ((n, v) :: ys).map (·.1) = n :: ys.map (·.1) := rfl
      have e1 : (n :: ys.map (·.1)).zip (q0 :: vs) = (n, q0) :: (ys.map (·.1)).zip vs := rfl
      rw [e0, e1]
      by_cases c : n = f
      · subst c
        have l : ((n, q0) :: (ys.map (·.1)).zip vs).lookup n = some q0 := by simp [List.lookup]
        rw [l]
        dsimp only
        have e2 : putF n y ((n, v) :: ys) = (n, y) :: ys := by show (if n = n then _ else _) = _; rw [if_pos rfl]
        rw [e2]
        refine ⟨rfl, ?_⟩
        have e3 : ((ys.map (·.1)).zip vs).map (fun kv => if kv.1 = n then dv else kv.2) = vs := by
          have hl : (ys.map (·.1)).length = vs.length := by rw [List.length_map, r2.len, List.length_map]
          have : ∀ (ks : List Str) (vs : List D), ks.length = vs.length → n ∉ ks → (ks.zip vs).map (fun kv => if kv.1 = n then dv else kv.2) = vs := by
            intro ks
            induction ks with
            | nil => intro vs h _; cases vs with | nil => rfl | cons _ _ => cases h
            | cons k ks ih =>
              intro vs h hn
              cases vs with
              | nil => cases h
              | cons v vs =>
                rw [List.mem_cons, not_or] at hn
                show (if k = n then dv else v) :: (ks.zip vs).map _ = _
                rw [if_neg (fun e => hn.1 e.symm), ih vs (by simpa using h) hn.2]
          exact this _ _ hl nd'.1
        show RepDL K cl μ G ((if n = n then dv else q0) :: ((ys.map (·.1)).zip vs).map _) _
        rw [if_pos rfl, e3]
        exact ⟨y, _, rfl, rv, r2⟩
      · have l : ((n, q0) :: (ys.map (·.1)).zip vs).lookup f = ((ys.map (·.1)).zip vs).lookup f := by
          have b : (f == n) = false := by simpa using fun z => c z.symm
          simp [List.lookup, b]
        have e2 : putF f y ((n, v) :: ys) = (n, v) :: putF f y ys := by show (if n = f then _ else _) = _; rw [if_neg c]
        rw [l, e2]
        cases hl : ((ys.map (·.1)).zip vs).lookup f with
        | some q =>
          rw [hl] at ih
          dsimp only at ih ⊢
          refine ⟨by show n :: (putF f y ys).map (·.1) = _; rw [ih.1], ?_⟩
          show RepDL K cl μ G ((if n = f then dv else q0) :: _) (v :: (putF f y ys).map (·.2))
          rw [if_neg c]
          exact ⟨v, _, rfl, r1, ih.2⟩
        | none =>
          rw [hl] at ih
          dsimp only at ih ⊢
          exact ⟨by show n :: (putF f y ys).map (·.1) = _; rw [ih.1]; rfl, v, _, rfl, r1, ih.2⟩
theorem s_fset {c0 : Nat} {at_ : Str} {o v : Expr} {p : Pos} {fo fv : List (Option D) → Sto → Res D} (hc : Cls X.K (cl c0)) (hna : NoAttr X.K (cl c0) at_) (ho : PE X o (tE X cl W fo)) (hv : PE X v (tE X cl W fv)) :
    PS X (.Assign [.Attribute o at_ p] v pos) (tS X cl W fun ρ S => (fv ρ S).out ρ fun dv S => (fo ρ S).out ρ fun d S => match d with
    | .box n => match S[n]? with
      | some (some (.ins c ns vs)) => if c == c0 && decide (ns.length < 999) && decide ns.Nodup then (match (ns.zip vs).lookup at_ with
        | some _ => .next ρ (S.set n (some (.ins c ns ((ns.zip vs).map fun kv => if kv.1 = at_ then dv else kv.2))))
        | none => .next ρ (S.set n (some (.ins c (ns ++ [at_]) (vs ++ [dv]))))) else .bad
      | _ => .bad
    | _ => .bad) := by
  refine (ps_fld ho hv swaps_att).imp fun E σ H ⟨ρ, S, μ, F, B, r, h⟩ => outE B r h fun y H1 dv S1 μ1 B1 f1 r1 rv h1 => outE B1 r1 h1 fun x H2 d S2 μ2 B2 f2 r2 rd h2 => ?_
  cases d with
  | p q => exact h2.elim
  | box n =>
    obtain ⟨a, rfl, hn⟩ := rd
    dsimp only at h2
    cases hs : S2[n]? with
    | none => simp only [hs] at h2; exact h2.elim
    | some oo =>
      cases oo with
      | none => simp only [hs] at h2; exact h2.elim
      | some ob =>
        simp only [hs] at h2
        have qo := B2.obj n a ob hn hs
        cases ob <;> first | exact h2.elim | skip
        rename_i c ns vs
        dsimp only at h2
        split at h2
        · rename_i hcc
          simp only [Bool.and_eq_true, beq_iff_eq, decide_eq_true_eq] at hcc
          obtain ⟨⟨rfl, hlt⟩, hnd⟩ := hcc
          obtain ⟨dx, ys, hH, hk, rl⟩ := qo
          refine ⟨a, cl c, dx, ys, rfl, hH, hc, hna, by rw [← List.length_map (f := (·.1)), hk]; omega, ?_⟩
          have pr := putF_rep (f := at_) (rv.mono f2.pre f2.gle (cl := cl)) hk rl hnd
          cases hl : (ns.zip vs).lookup at_ with
          | some q =>
            rw [hl] at pr h2
            dsimp only at pr h2
            obtain ⟨B4, f4⟩ := B2.write (x := .ins c ns ((ns.zip vs).map fun kv => if kv.1 = at_ then dv else kv.2)) (u := .ins (cl c) dx (putF at_ y ys)) hn hs ⟨dx, _, upd_same, pr.1, pr.2⟩
            exact h2 σ μ2 _ B4 f4 (r2.mono f4.pre f4.gle)
          | none =>
            rw [hl] at pr h2
            dsimp only at pr h2
            obtain ⟨B4, f4⟩ := B2.write (x := .ins c (ns ++ [at_]) (vs ++ [dv])) (u := .ins (cl c) dx (putF at_ y ys)) hn hs ⟨dx, _, upd_same, pr.1, pr.2⟩
            exact h2 σ μ2 _ B4 f4 (r2.mono f4.pre f4.gle)
        · exact h2.elim
/-! ### loops -/
theorem s_while {c : Expr} {body : List Stmt} {fuel : Nat} {fc : List (Option D) → Sto → Res Bool} (hp : PassesOwn (model X.prog X.w) X.A X.env X.xe) (hc : PT X c (tT X cl W fc)) (hb : PSs X body (tS X cl W f)) :
    PS X (.While c body [] pos) (tS X cl W fun ρ S => whileO fc f fuel ρ S) := by
  refine (ps_while hp hc hb).imp fun E σ H ⟨ρ, S, μ, F, B, r, h⟩ => ?_
  refine ⟨fun m σ H => ∃ ρ S μ, Bears X.K cl F μ H S ∧ RepS X.K cl μ (Gz F μ S H) σ ρ ∧ SatO X.K cl F μ S H W E (whileO fc f m ρ S), ⟨fuel, ρ, S, μ, B, r, h⟩, ?_⟩
  rintro m σ H ⟨ρ, S, μ, B, r, h⟩
  cases m with
  | zero => exact h.elim
  | succ m =>
    have h' : SatO X.K cl F μ S H W E ((fc ρ S).out ρ fun b S => if b then (f ρ S).andThen fun ρ S => whileO fc f m ρ S else .next ρ S) := h
    refine outT B r h' fun b H1 S1 μ1 B1 f1 r1 h1 => ?_
    cases b with
    | false => exact h1 σ μ1 H1 B1 Fra.refl r1
    | true =>
      rw [if_pos rfl]
      refine ⟨fun σ H => ∃ ρ S μ, Bears X.K cl F μ H S ∧ RepS X.K cl μ (Gz F μ S H) σ ρ ∧ SatO X.K cl F μ S H W E (whileO fc f m ρ S), fun σ' H' z => ⟨m, Nat.lt_succ_self _, z⟩, ρ, S1, μ1, F, B1, r1, ?_⟩
      exact SatO.seq h1 rfl fun σ' μ' H' ρ' S' B' f' rs h' => ⟨ρ', S', μ', B', rs, h'⟩
theorem s_for {tge iter : Expr} {body : List Stmt} {tg : Tg} {fs : List (Option D) → Sto → Res (List P)} (hp : PassesOwn (model X.prog X.w) X.A X.env X.xe) (hc : X.calm = true) (hi : PI X tge iter (tI X cl W fs)) (hg : PG X tge (gT X.K tg)) (hb : PSs X body (tS X cl W f))
    (hs : ∀ x, foldedSetIterable iter X.env x = pure x) :
    PS X (.For tge iter body [] pos) (tS X cl W fun ρ S => (fs ρ S).out ρ fun items S => forO (fun x ρ S => match setTg tg x ρ with
      | some ρ => f ρ S
      | none => .bad) items ρ S) := by
  refine (ps_for hp hc hi hg hb hs).imp fun E σ H ⟨ρ, S, μ, F, B, r, h⟩ => ?_
  refine ⟨ρ, S, μ, F, B, r, Sat.mono (SatO.out r h) fun J H1 ⟨items, S1, μ1, B1, f1, wk, h1⟩ => ?_⟩
  refine ⟨fun i m σ H => m = items.length - i ∧ i ≤ items.length ∧ ∃ ρ S μ, Bears X.K cl F μ H S ∧ Gle (Gz F μ1 S1 H1) (Gz F μ S H) ∧ RepS X.K cl μ (Gz F μ S H) σ ρ ∧ SatO X.K cl F μ S H W E (forO (fun x ρ S => match setTg tg x ρ with
      | some ρ => f ρ S
      | none => .bad) (items.drop i) ρ S), ⟨items.length, by simp, Nat.zero_le _, ρ, S1, μ1, B1, Gle.refl _, r.mono f1.pre f1.gle, h1⟩, ?_⟩
  rintro i m σ H ⟨rfl, hle, ρ, S, μ, B, g, r, h⟩
  obtain ⟨wstop, wgo⟩ := wk i F μ S H B g
  by_cases hlt : i < items.length
  · right
    obtain ⟨go, yl⟩ := wgo items[i] (by simp [hlt])
    have hdr : items.drop i = items[i] :: items.drop (i + 1) := (List.getElem_cons_drop hlt).symm
    rw [hdr] at h
    refine ⟨go, fun σ H => ∃ ρ S μ, Bears X.K cl F μ H S ∧ Gle (Gz F μ1 S1 H1) (Gz F μ S H) ∧ RepS X.K cl μ (Gz F μ S H) σ ρ ∧ SatO X.K cl F μ S H W E (forO (fun x ρ S => match setTg tg x ρ with
      | some ρ => f ρ S
      | none => .bad) (items.drop (i + 1)) ρ S), fun σ' H' z => ⟨items.length - (i + 1), by omega, rfl, hlt, z⟩, fun x H' yy => ?_⟩
    obtain ⟨B4, f4, rp⟩ := yl x H' yy
    have h4 := SatO.later f4 h
    simp only [forO] at h4
    cases hst : setTg tg items[i] ρ with
    | none => rw [hst] at h4; exact h4.elim
    | some ρ' =>
      rw [hst] at h4
      refine setTg_rep (r.mono f4.pre f4.gle) rp gz_gle hst fun σ' rs' _ => ⟨ρ', S, μ, F, B4, rs', ?_⟩
      exact SatO.seq h4 rfl fun σ2 μ2 H2 ρ2 S2 B2 f2 rs2 h2 => ⟨ρ2, S2, μ2, B2, g.trans (f4.gle.trans f2.gle), rs2, h2⟩
  · left
    have e : i = items.length := by omega
    subst e
    rw [List.drop_length] at h
    exact ⟨wstop (Nat.le_refl _), h σ μ H B Fra.refl r⟩
end
/-! ### a def by its body -/
theorem num_len : ∀ (as : List Arg) (k : Nat), (numA k as).length = as.length
  | [], _ => rfl
  | .p _ :: as, k => by show (numA k as).length + 1 = _; rw [num_len as k]; rfl
  | .o _ :: as, k => by show (numA (k + 1) as).length + 1 = _; rw [num_len as]; rfl
section
variable {K : PySem.W.Frag} {cl : Nat → Addr}
theorem all_some (os : List O) : ∀ j, j < (os.map some).length → ∃ o, (os.map some)[j]? = some (some o) := fun j hj => by
  rw [List.length_map] at hj
  exact ⟨os[j], by simp [hj]⟩
/-- the boxes of a def's own are let go -/
theorem cut_own {F μ μ' : List Addr} {S S' : Sto} {H H' : Hp} {os : List O} (B0 : Bears K cl F μ H S) (hS : ∀ j, j < S.length → ∃ o, S[j]? = some (some o)) (B : Bears K cl F μ' H' S') (f : Fra μ S H μ' S' H') (hl : os.length = S.length) (ht : S'.take S.length = os.map some) (hp : os.all O.pure = true) :
    Bears K cl F μ H' (os.map some) ∧ Fra μ S H μ (os.map some) H' ∧ Gle (Gz F μ' S' H') (Gz F μ (os.map some) H') := by
  have get : ∀ (n : Nat) (o : O), (os.map some)[n]? = some (some o) → S'[n]? = some (some o) := fun n o e => by
    rw [← ht] at e
    by_cases c : n < S.length
    · rwa [List.getElem?_take_of_lt c] at e
    · rw [List.getElem?_eq_none (by rw [List.length_take]; omega)] at e
      cases e
  have lv : ∀ a, Liv μ (os.map some) a → Liv μ' S' a := fun a ⟨n, o, e1, e2⟩ => ⟨n, o, pre_get f.pre e1, get n o e2⟩
  have gl : Gle (Gz F μ' S' H') (Gz F μ (os.map some) H') := Gle.of fun a u h => by
    obtain ⟨h1, h2, h3⟩ := gz_some h
    rw [gz_of (fun z => h1 (lv a z)) h2]
    exact h3
  have lS : ∀ a, Liv μ (os.map some) a → Liv μ S a := fun a ⟨n, o, e1, e2⟩ => by
    have hn : n < S.length := by rw [← hl]; have := (List.getElem?_eq_some_iff.mp e2).1; simpa using this
    obtain ⟨o', ho'⟩ := hS n hn
    exact ⟨n, o', e1, ho'⟩
  refine ⟨⟨by rw [List.length_map, hl]; exact B0.len, B0.nd, fun n a o hn ho => ?_, fun n a hn => B.dom n a (pre_get f.pre hn), B0.nf, fun a z => B.hd a z⟩, ⟨List.prefix_refl _, fun a u h e => ⟨(f.keep a u h e).1, fun z => h (lS a z)⟩, f.dom⟩, gl⟩
  have q := B.obj n a o (pre_get f.pre hn) (get n o ho)
  have pu : o.pure = true := by
    rw [List.all_eq_true] at hp
    rw [List.getElem?_map] at ho
    obtain ⟨o2, e1, e2⟩ := Option.map_eq_some_iff.mp ho
    cases e2
    exact hp _ (List.mem_of_getElem? e1)
  exact ObjAt.pure pu (q.mono (List.prefix_refl _) gl fun _ e => e)
/-- an end, by what the body's run says -/
theorem says_sat {F μ : List Addr} {S : Sto} {H : Hp} {W : XK} {Q : VK} {r : Res D} {lr : LR} (B0 : Bears K cl F μ H S) (hS : ∀ j, j < S.length → ∃ o, S[j]? = some (some o)) (h : Says r S.length lr) (w : Sat K cl F μ S H (RD K cl) (resL S.length lr) W Q) : Sat K cl F μ S H (RD K cl) r W Q := by
  cases lr with
  | bad => exact w.elim
  | rse c ns vs os =>
    obtain ⟨S', rfl, hl, ht⟩ := h
    simp only [resL] at w
    split at w
    · rename_i hc
      intro dd μ' H' B f rx
      obtain ⟨B2, f2, gl⟩ := cut_own B0 hS B f hl ht hc.2
      exact w dd μ H' B2 f2 (rx.elim .inl fun ⟨d, fs, e1, e2, e3, e4⟩ => .inr ⟨d, fs, e1, e2, e3, RepL.mono gl _ _ e4⟩)
    · exact w.elim
  | ok ra os =>
    cases ra with
    | p x =>
      obtain ⟨S', rfl, hl, ht⟩ := h
      simp only [resL] at w
      split at w
      · rename_i hc
        intro v μ' H' B f rx
        obtain ⟨B2, f2, gl⟩ := cut_own B0 hS B f hl ht hc.2
        exact w v μ H' B2 f2 (Rep.mono gl _ _ rx)
      · exact w.elim
    | o o =>
      obtain ⟨m, S', rfl, hl, ht, hm, hs⟩ := h
      simp only [resL] at w
      split at w
      · rename_i hc
        intro v μ' H' B f rx
        obtain ⟨a, rfl, ha⟩ := rx
        obtain ⟨B2, f2, gl⟩ := cut_own B0 hS B f hl ht hc.2.1
        have na : a ∉ μ := fun z => by
          obtain ⟨j, hj⟩ := List.mem_iff_getElem?.mp z
          have e := nd_eq B.nd ha (pre_get f.pre hj)
          have := (List.getElem?_eq_some_iff.mp hj).1
          have := B0.len
          omega
        have la : Liv μ' S' a := ⟨m, o, ha, hs⟩
        have lvA : ∀ b, Liv (μ ++ [a]) (os.map some ++ [some o]) b → Liv μ' S' b := fun b z => by
          rcases liv_app (by rw [List.length_map, hl]; exact B0.len) z with ⟨n, x, e1, e2⟩ | z
          · refine ⟨n, x, pre_get f.pre e1, ?_⟩
            rw [← ht] at e2
            by_cases c : n < S.length
            · rwa [List.getElem?_take_of_lt c] at e2
            · rw [List.getElem?_eq_none (by rw [List.length_take]; omega)] at e2
              cases e2
          · rw [z]; exact la
        have gl2 : Gle (Gz F μ' S' H') (Gz F (μ ++ [a]) (os.map some ++ [some o]) H') := Gle.of fun b u h => by
          obtain ⟨h1, h2, h3⟩ := gz_some h
          rw [gz_of (fun z => h1 (lvA b z)) h2]
          exact h3
        have hlen : μ.length = os.length := by rw [B0.len, hl]
        have B3 : Bears K cl F (μ ++ [a]) H' (os.map some ++ [some o]) := by
          refine ⟨by simp [hlen], ?_, fun n b x hn hx => ?_, fun n b hn => ?_, fun n b hn => ?_, fun b z => B.hd b z⟩
          · rw [List.nodup_append]
            exact ⟨B0.nd, by simp, fun x hx y hy => by simp at hy; subst hy; exact fun e => na (e ▸ hx)⟩
          · by_cases c : n < μ.length
            · rw [List.getElem?_append_left c] at hn
              rw [List.getElem?_append_left (by rw [List.length_map, ← hlen]; exact c)] at hx
              have q := B.obj n b x (pre_get f.pre hn) (by
                rw [← ht, List.getElem?_take_of_lt (by rw [← B0.len]; exact c)] at hx
                exact hx)
              have pu : x.pure = true := by
                have hp := hc.2.1
                rw [List.all_eq_true] at hp
                rw [List.getElem?_map] at hx
                obtain ⟨o2, e1, e2⟩ := Option.map_eq_some_iff.mp hx
                cases e2
                exact hp _ (List.mem_of_getElem? e1)
              exact ObjAt.pure pu (q.mono (List.prefix_refl _) gl2 fun _ e => e)
            · rw [List.getElem?_append_right (by omega)] at hn
              rw [List.getElem?_append_right (by rw [List.length_map]; omega)] at hx
              have e1 := (List.getElem?_eq_some_iff.mp hn).2
              have e2 := (List.getElem?_eq_some_iff.mp hx).2
              simp at e1 e2
              subst e1; subst e2
              exact ObjAt.pure hc.2.2 ((B.obj m _ _ ha hs).mono (List.prefix_refl _) gl2 fun _ e => e)
          · by_cases c : n < μ.length
            · rw [List.getElem?_append_left c] at hn
              exact B.dom n b (pre_get f.pre hn)
            · rw [List.getElem?_append_right (by omega)] at hn
              have e1 := (List.getElem?_eq_some_iff.mp hn).2
              simp at e1
              subst e1
              exact B.dom m _ ha
          · by_cases c : n < μ.length
            · rw [List.getElem?_append_left c] at hn
              exact B0.nf n b hn
            · rw [List.getElem?_append_right (by omega)] at hn
              have e1 := (List.getElem?_eq_some_iff.mp hn).2
              simp at e1
              subst e1
              exact B.nf m _ ha
        exact w (.ref a) (μ ++ [a]) H' B3 ⟨List.prefix_append _ _, fun b u h e => ⟨(f.keep b u h e).1, fun z => (f.keep b u h e).2 (lvA b z)⟩, f.dom⟩ ⟨a, rfl, by rw [← hlen]; simp⟩
      · exact w.elim
theorem boxes_some : ∀ (as : List Arg) (j : Nat), j < (boxesA as).length → ∃ o, (boxesA as)[j]? = some (some o)
  | [], j, h => absurd h (by simp [boxesA])
  | .p _ :: as, j, h => boxes_some as j h
  | .o o :: as, 0, h => ⟨o, rfl⟩
  | .o o :: as, j + 1, h => by
    obtain ⟨o', e⟩ := boxes_some as j (by simpa [boxesA] using h)
    exact ⟨o', by show (some o :: boxesA as)[j + 1]? = _; simpa using e⟩
end
section
variable {P : Program} {w : World} {K : PySem.W.Frag} {mg : Str → Option Value} {base : Heap} {cl : Nat → Addr} {Φ : Nat → List Arg → LR} {fuel : Nat}
/-- THE RULE: a def's promise by its body -/
theorem fn_by {x qual : Str} {st : Stmt} {f : Addr} {fd : FuncData} {N ps : List Str} {k : Nat} {b : IB} {Fn : List Arg → LR} (Fd : C8.Fun K x qual st f fd) (S : FnScope N ps (C8.fnScope st))
    (hbody : ∀ X : Cx, X.prog = P → X.w = w → X.K = K → X.mg = mg → X.base = base → X.N = N → X.env.scope = C8.fnScope st → X.calm = true → (∀ y, X.fn y = true) → Room k X.A → PassesOwn (model X.prog X.w) X.A X.env X.xe → ∀ W, Takes X W → PSs X (C8.fnBody st) (tS X cl W (exs Φ fuel b)))
    (hlen : ∀ as, Fn as ≠ .bad → as.length = ps.length) (hs : ∀ as, as.length = ps.length → Says (runB Φ fuel b N.length (numA 0 as) (boxesA as)) (boxesA as).length (Fn as)) : FnOk P w K mg base (L2.CX P w) (k + 1) f fd ps (spL K cl Fn) := by
  obtain ⟨oc, od, dV, kV, doc, pm, an, cdv, ct, osl, rfl, lk, hcd⟩ := Fd.ex
  have lenOf : ∀ as (F μ : List Addr) (H : Hp) (E : XK) (Q : VK), Sat K cl F μ (boxesA as) H (RD K cl) (resL (boxesA as).length (Fn as)) E Q → as.length = ps.length := fun as F μ H E Q h => hlen as fun e => by
    rw [e] at h
    exact h.elim
  have len : ∀ vs H Q E, spL K cl Fn vs H Q E → vs.length = ps.length := fun vs H Q E ⟨F, μ, as, B, r, pu, h⟩ => by
    rw [← r.len, num_len]
    exact lenOf as F μ H E Q h
  refine fn_of lk hcd S len fun A outer s H vs Q E hr hsp => ?_
  obtain ⟨F, μ, as, B, r, pu, h⟩ := hsp
  have hal := lenOf as F μ H E Q h
  have tk := takes_of (X := cxOf (L2.CX P w) P w K mg base N qual (C8.fnScope st) f cdv A outer s H E) (E := E) rfl rfl rfl rfl
  refine ⟨_, hbody (cxOf (L2.CX P w) P w K mg base N qual (C8.fnScope st) f cdv A outer s H E) rfl rfl rfl rfl rfl rfl rfl rfl (fun _ => rfl) hr (passes_of rfl) _ tk, ?_⟩
  have hv : vs.length = as.length := by rw [← r.len, num_len]
  refine ⟨(numA 0 as).map some ++ List.replicate (N.length - (numA 0 as).length) none, boxesA as, μ, F, B, ?_, ?_⟩
  · -- the names
    refine ⟨by unfold L2.start; simp [num_len, hv], fun i d e => ?_⟩
    have hi : i < (numA 0 as).length := by
      by_cases c : i < (numA 0 as).length
      · exact c
      · rw [List.getElem?_append_right (by simpa using c), List.getElem?_replicate] at e
        split at e <;> cases e
    rw [List.getElem?_append_left (by simpa using hi), List.getElem?_map] at e
    obtain ⟨d2, e2, e3⟩ := Option.map_eq_some_iff.mp e
    cases e3
    have get : ∀ {l : List D} {xs : List V} {i : Nat} {d : D}, RepDL K cl μ (Gz F μ (boxesA as) H) l xs → l[i]? = some d → ∃ v, xs[i]? = some v ∧ RepD K cl μ (Gz F μ (boxesA as) H) d v := by
      intro l
      induction l with
      | nil => intro xs i d _ h; simp at h
      | cons q l ih =>
        intro xs i d r h
        obtain ⟨v, t, e, r1, r2⟩ := r
        subst e
        cases i with
        | zero => simp at h; subst h; exact ⟨v, rfl, r1⟩
        | succ i =>
          obtain ⟨v2, h1, h2⟩ := ih r2 (by simpa using h)
          exact ⟨v2, by simpa using h1, h2⟩
    obtain ⟨v, h1, h2⟩ := get r e2
    refine ⟨v, ?_, h2⟩
    unfold L2.start
    rw [List.getElem?_append_left (by rw [List.length_map, hv, ← num_len as 0]; exact hi), List.getElem?_map, h1]
    rfl
  · have hsay := hs as hal
    have h2 := says_sat B (boxes_some as) hsay h
    unfold runB at h2
    cases hx : exs Φ fuel b ((numA 0 as).map some ++ List.replicate (N.length - (numA 0 as).length) none) (boxesA as) with
    | next ρ S' =>
      rw [hx] at h2
      exact fun σ' μ' H' B' f' _ => h2 .non μ' H' B' f' rfl
    | ret d S' =>
      rw [hx] at h2
      exact h2
    | rse ρ c ns vs S' =>
      rw [hx] at h2
      exact fun σ' dd μ' H' B' f' _ rx => h2 dd μ' H' B' f' rx
    | bad =>
      rw [hx] at h2
      exact h2.elim
end
end PD
/-! Exceptions of one's own as values: made, asked, read. -/
namespace PD
open PySem L2 PySem.Spec PyProof.Rows
section
variable {X : Cx} {cl : Nat → Addr} {W : WX}
def mkX (c : Nat) (f : Option Str) (ps : List P) (S : Sto) : Res D := match ps with
  | [x] => .ok (.p (match f with | some f => .exc c [f] [x] | none => .exc c [] [])) S
  | _ => .bad
theorem rep1 {K : PySem.W.Frag} {G : Hp} {ps : List P} {v : V} (r : RepL K cl G ps [v]) : ∃ p, ps = [p] ∧ Rep K cl G p v := by
  cases ps with
  | nil => cases (show ([v] : List V) = [] from r)
  | cons p ps =>
    obtain ⟨w, t, e, h1, h2⟩ := r
    cases e
    cases ps with
    | nil => exact ⟨p, rfl, h1⟩
    | cons q qs => obtain ⟨_, _, e, _⟩ := h2; cases e
theorem rep1' {K : PySem.W.Frag} {G : Hp} {p : P} {xs : List V} (r : RepL K cl G [p] xs) : ∃ v, xs = [v] ∧ Rep K cl G p v := by
  obtain ⟨w, t, e, h1, h2⟩ := r
  rw [e, show t = [] from h2]
  exact ⟨w, rfl, h1⟩
theorem mkX_ok {c : Nat} {f : Option Str} {ps : List P} {S : Sto} {K : PySem.W.Frag} {F μ : List Addr} {H : Hp} {R : List Addr → Hp → D → V → Prop} {Wx : XK} {Q : V → Hp → Prop} (h : Sat K cl F μ S H R (mkX c f ps S) Wx Q) : ∃ x, ps = [x] := by
  unfold mkX at h
  split at h
  · exact ⟨_, rfl⟩
  · exact h.elim
theorem e_mkx {c : Nat} {fI : Addr} {f x : Str} {e : Expr} {es : List Expr} {p pos : Pos} {g : List (Option D) → Sto → Res (List D)} (Wi : PX.XInit X.prog X.K X.mg (cl (c + 500)) fI f) (hr : Room 1 X.A) (hg : Gl X x) (hm : X.mg x = some (.ref (cl (c + 500)))) (hdb : (x == ("__debug__" : Str)) = false)
    (ha : PA X (e :: es) (tA X cl W g)) (he : starEach (e :: es) X.env = (false, eval e X.env) :: starEach es X.env) (hpl : (backTo pos (starEach es X.env)).any (·.1) = false) :
    PE X (.Call (.Name x p) (e :: es) [] pos) (tE X cl W fun ρ S => (g ρ S).bind fun ds S => (frzL S ds).bind fun ps S => mkX c (some f) ps S) := by
  refine (PX.pe_mkx Wi hr hg hm hdb ha he hpl).imp fun σ H Q ⟨ρ, S, μ, F, B, r, h⟩ => stepA B r h fun xs H1 ds S1 μ1 B1 f1 r1 rds h1 => ?_
  obtain ⟨ps, S2, e2, l2, B2, f2, r2, h2⟩ := Sat.frzL B1 rds h1
  obtain ⟨q, rfl⟩ := mkX_ok h2
  obtain ⟨v, rfl, rv⟩ := rep1' r2
  refine ⟨v, rfl, fun a dx na nd ne => ?_⟩
  obtain ⟨B3, f3⟩ := B2.fresh (o := exd dx [(f, v)]) nd
  have na3 : upd H1 dx (exd dx [(f, v)]) a = none := by rw [upd_ne (Ne.symm ne)]; exact na
  obtain ⟨B4, f4⟩ := B3.fresh (o := exo a (cl (c + 500)) (some dx)) na3
  have g1 := gz_fresh (o := exo a (cl (c + 500)) (some dx)) B3 na3
  have g2 := f4.gle.ex dx (exd dx [(f, v)]) True.intro (gz_fresh (o := exd dx [(f, v)]) B2 nd)
  exact h2 _ _ _ B4 (f3.trans f4) ⟨a, [(f, v)], rfl, .inr ⟨dx, g1, g2⟩, rfl, v, [], rfl, Rep.mono (f3.trans f4).gle _ _ rv, rfl⟩
theorem e_mkxk {c : Nat} {fI : Addr} {f x : Str} {kws : List Keyword} {p pos : Pos} {g : List (Option D) → Sto → Res (List D)} (Wi : PX.XInit X.prog X.K X.mg (cl (c + 500)) fI f) (hr : Room 1 X.A) (hg : Gl X x) (hm : X.mg x = some (.ref (cl (c + 500)))) (hdb : (x == ("__debug__" : Str)) = false)
    (ha : PK X kws (tA X cl W g)) (hks : (backToKw pos (keywordEach kws X.env)).filterMap (·.1) = [f]) (hall : (backToKw pos (keywordEach kws X.env)).all (·.1.isSome) = true)
    (hpl : ((backTo pos (starEach [] X.env)).any (·.1) || (backToKw pos (keywordEach kws X.env)).any (·.1.isNone)) = false) :
    PE X (.Call (.Name x p) [] kws pos) (tE X cl W fun ρ S => (g ρ S).bind fun ds S => (frzL S ds).bind fun ps S => mkX c (some f) ps S) := by
  refine (PX.pe_mkxk Wi hr hg hm hdb ha hks hall hpl).imp fun σ H Q ⟨ρ, S, μ, F, B, r, h⟩ => stepA B r h fun xs H1 ds S1 μ1 B1 f1 r1 rds h1 => ?_
  obtain ⟨ps, S2, e2, l2, B2, f2, r2, h2⟩ := Sat.frzL B1 rds h1
  obtain ⟨q, rfl⟩ := mkX_ok h2
  obtain ⟨v, rfl, rv⟩ := rep1' r2
  refine ⟨v, rfl, fun a dx na nd ne => ?_⟩
  obtain ⟨B3, f3⟩ := B2.fresh (o := exd dx [(f, v)]) nd
  have na3 : upd H1 dx (exd dx [(f, v)]) a = none := by rw [upd_ne (Ne.symm ne)]; exact na
  obtain ⟨B4, f4⟩ := B3.fresh (o := exo a (cl (c + 500)) (some dx)) na3
  have g1 := gz_fresh (o := exo a (cl (c + 500)) (some dx)) B3 na3
  have g2 := f4.gle.ex dx (exd dx [(f, v)]) True.intro (gz_fresh (o := exd dx [(f, v)]) B2 nd)
  exact h2 _ _ _ B4 (f3.trans f4) ⟨a, [(f, v)], rfl, .inr ⟨dx, g1, g2⟩, rfl, v, [], rfl, Rep.mono (f3.trans f4).gle _ _ rv, rfl⟩
theorem e_mkx0 {c : Nat} {x : Str} {e : Expr} {es : List Expr} {p pos : Pos} {g : List (Option D) → Sto → Res (List D)} (q : PySem.W.excIn X.K (cl (c + 500)) PySem.HandSPX.veTail "ValueError.__new__" = true) (kC : PySem.W.keepIn X.K (.ref (cl (c + 500))) = true) (hg : Gl X x) (hm : X.mg x = some (.ref (cl (c + 500)))) (hdb : (x == ("__debug__" : Str)) = false)
    (ha : PA X (e :: es) (tA X cl W g)) (he : starEach (e :: es) X.env = (false, eval e X.env) :: starEach es X.env) (hpl : (backTo pos (starEach es X.env)).any (·.1) = false) :
    PE X (.Call (.Name x p) (e :: es) [] pos) (tE X cl W fun ρ S => (g ρ S).bind fun ds S => (frzL S ds).bind fun ps S => mkX c none ps S) := by
  refine (PX.pe_mkx0 q kC hg hm hdb ha he hpl).imp fun σ H Q ⟨ρ, S, μ, F, B, r, h⟩ => stepA B r h fun xs H1 ds S1 μ1 B1 f1 r1 rds h1 => ?_
  obtain ⟨ps, S2, e2, l2, B2, f2, r2, h2⟩ := Sat.frzL B1 rds h1
  obtain ⟨z, rfl⟩ := mkX_ok h2
  obtain ⟨v, rfl, rv⟩ := rep1' r2
  refine ⟨⟨v, rfl⟩, fun a na => ?_⟩
  obtain ⟨B3, f3⟩ := B2.fresh (o := exo a (cl (c + 500)) none) na
  exact h2 _ _ _ B3 f3 ⟨a, [], rfl, .inl ⟨rfl, gz_fresh (o := exo a (cl (c + 500)) none) B2 na⟩, rfl, rfl⟩
theorem exc_vw {K : PySem.W.Frag} {G H : Hp} (g : Gle G H) {c : Nat} {ns : List Str} {vs : List P} {v : V} (h : Vw K cl G H (.exc c ns vs) v) : ∃ a ys, v = .ref a ∧ ExV H (cl (c + 500)) ys a ∧ ys.map (·.1) = ns ∧ RepL K cl G vs (ys.map (·.2)) := by
  obtain ⟨a, ys, e, h1, h2, h3⟩ := h
  exact ⟨a, ys, e, g.exv h1, h2, h3⟩
theorem look_fs {K : PySem.W.Frag} {G : Hp} {f : Str} : ∀ {ys : List (Str × V)} {vs : List P} {z : P}, RepL K cl G vs (ys.map (·.2)) → look (ys.map (·.1)) vs f = some z → ∃ w, ys.lookup f = some w ∧ Rep K cl G z w
  | [], vs, z, _, h => by cases vs <;> cases h
  | (k, v) :: ys, [], z, r, h => by cases h
  | (k, v) :: ys, p :: vs, z, r, h => by
    obtain ⟨w, t, e, h1, h2⟩ := r
    cases e
    have h' : (if k = f then some p else look (ys.map (·.1)) vs f) = some z := h
    rw [lookup_put]
    by_cases c : f = k
    · rw [if_pos c.symm] at h'
      cases h'
      exact ⟨v, by rw [if_pos c], h1⟩
    · rw [if_neg (fun z => c z.symm)] at h'
      rw [if_neg c]
      exact look_fs h2 h'
theorem e_xf {c : Nat} {f : Str} {e : Expr} {pos : Pos} {fe : List (Option D) → Sto → Res D} (T : XfC X.K (cl (c + 500))) (hn : PySem.W.findIn X.K (.ref (cl (c + 500))) f = some none) (hb : attributeBase e f X.env (eval e X.env) = eval e X.env) (he : PE X e (tE X cl W fe)) :
    PE X (.Attribute e f pos) (tE X cl W fun ρ S => (fe ρ S).bind fun d S => optR ((view S d).bind fun x => (prim1 (.xf c f) x).map .p) S) := by
  refine (PX.pe_xget he hb).imp fun σ H Q ⟨ρ, S, μ, F, B, r, h⟩ => stepE B r h fun x H1 d S1 μ1 B1 f1 r1 rd h1 => ?_
  obtain ⟨d2, e2, h2⟩ := Sat.opt h1
  obtain ⟨q, e3, e4⟩ := Option.bind_eq_some_iff.mp e2
  obtain ⟨z, e5, rfl⟩ := Option.map_eq_some_iff.mp e4
  have vw := view_vw B1 rd e3
  cases q <;> first | (cases e5; done) | skip
  rename_i c' ns vs
  simp only [prim1] at e5
  split at e5
  · rename_i ec
    subst ec
    obtain ⟨a, ys, rfl, hx, hns, rl⟩ := exc_vw gz_gle vw
    subst hns
    obtain ⟨w, l, rw'⟩ := look_fs rl e5
    rcases hx with ⟨rfl, _⟩ | ⟨dx, ha, hd⟩
    · cases l
    · exact ⟨a, cl (c + 500), dx, ys, w, rfl, T, hn, ha, hd, l, give B1 h2 rw'⟩
  · cases e5
theorem e_isX {n t : Nat} {cs : List Nat} {a c : Expr} {vc : V} {u : Value} {p pos : Pos} {f : List (Option D) → Sto → Res D} (hc : ∀ c, c < n → ExcC X.K (cl (c + 500))) (hk : ∀ c, c < n → PySem.W.kitOne X.K (.ref (cl (c + 500))) u = some (cs.contains c)) (hcl : ∀ u', RelV vc u' → u' = u)
    (hvc : PE X c (tC vc)) (hg : Gl X "isinstance") (hm : X.mg "isinstance" = none) (hs1 : noStar a = true) (hs2 : noStar c = true) (ha : PE X a (tE X cl W f)) :
    PE X (.Call (.Name "isinstance" p) [a, c] [] pos) (tE X cl W fun ρ S => (f ρ S).bind fun d S => optR ((view S d).bind fun x => (prim1 (.isX n t cs) x).map .p) S) := by
  refine (pe_callB PX.call_isX hg hm (by first | rfl | decide +kernel) (pa_cons ha (pa_cons hvc pa_nil (star_cons hs2)) (star_cons hs1)) (he := star_cons hs1) (hpl := star_none (by simp [hs2]))).imp fun σ H Q ⟨ρ, S, μ, F, B, r, h⟩ => ?_
  refine stepE B r h fun x H1 d S1 μ1 B1 f1 r1 rd h1 => ?_
  obtain ⟨d2, e2, h2⟩ := Sat.opt h1
  obtain ⟨q, e3, e4⟩ := Option.bind_eq_some_iff.mp e2
  obtain ⟨z, e5, rfl⟩ := Option.map_eq_some_iff.mp e4
  have vw := view_vw B1 rd e3
  cases q <;> first | (cases e5; done) | skip
  rename_i c' ns vs
  simp only [prim1] at e5
  split at e5
  · rename_i hlt
    cases e5
    obtain ⟨a, ys, rfl, hx, _, _⟩ := exc_vw gz_gle vw
    exact ⟨a, cl (c' + 500), ys, vc, u, _, rfl, hx, hc c' hlt, hcl, hk c' hlt, give B1 h2 rfl⟩
  · cases e5
end
end PD
/-! The check: Python's syntax against the little language. -/
namespace PD
open PySem L2 PySem.Spec PyProof.Rows
mutual
def P.eqb : P → P → Bool
  | .non => fun q => match q with | .non => true | _ => false
  | .bl b => fun q => match q with | .bl c => decide (b = c) | _ => false
  | .int b => fun q => match q with | .int c => decide (b = c) | _ => false
  | .str b => fun q => match q with | .str c => decide (b = c) | _ => false
  | .tup l => fun q => match q with | .tup m => P.eqbs l m | _ => false
  | .ktup l => fun q => match q with | .ktup m => P.eqbs l m | _ => false
  | _ => fun _ => false
def P.eqbs : List P → List P → Bool
  | [] => fun m => match m with | [] => true | _ => false
  | p :: l => fun m => match m with | q :: m => P.eqb p q && P.eqbs l m | [] => false
end
mutual
theorem P.eqb_ok : ∀ (p q : P), P.eqb p q = true → p = q
  | .non, q, h => by cases q <;> first | rfl | cases h
  | .bl b, q, h => by cases q <;> first | (cases h; done) | skip; exact congrArg P.bl (of_decide_eq_true h)
  | .int b, q, h => by cases q <;> first | (cases h; done) | skip; exact congrArg P.int (of_decide_eq_true h)
  | .str b, q, h => by cases q <;> first | (cases h; done) | skip; exact congrArg P.str (of_decide_eq_true h)
  | .tup l, q, h => by cases q <;> first | (cases h; done) | skip; exact congrArg P.tup (P.eqbs_ok l _ h)
  | .ktup l, q, h => by cases q <;> first | (cases h; done) | skip; exact congrArg P.ktup (P.eqbs_ok l _ h)
  | .lst _, _, h => by cases h
  | .fls _, _, h => by cases h
  | .dk _ _, _, h => by cases h
  | .dt _ _, _, h => by cases h
  | .ins _ _ _, _, h => by cases h
  | .exc _ _ _, _, h => by cases h
theorem P.eqbs_ok : ∀ (l m : List P), P.eqbs l m = true → l = m
  | [], m, h => by cases m <;> first | rfl | cases h
  | p :: l, m, h => by
    cases m with
    | nil => cases h
    | cons q m =>
      have h' : (P.eqb p q && P.eqbs l m) = true := h
      rw [Bool.and_eq_true] at h'
      rw [P.eqb_ok p q h'.1, P.eqbs_ok l m h'.2]
end
/-- what may be named -/
structure Tab where
  fns : List (Str × Nat × List P) := []
  mks : List (Str × Nat × Nat × List P) := []
  mts : List (Nat × Str × Nat) := []
  ops : List (Nat × Operator × Nat) := []
  eqs : List (Nat × Nat) := []
  nes : List (Nat × Nat) := []
  ins : List (Nat × Nat) := []
  lens : List (Nat × Nat) := []
  fls : List (Nat × Str) := []
  cls : List (Str × Nat) := []
  gls : List (Str × P) := []
  blts : List Str := []
  ncl : Nat := 0
  isa : List (List Ty) := []
  /-- exception classes: name, number, field; how many are known; isinstance's targets with what is below them; fields -/
  xs : List (Str × Nat × Option Str) := []
  nx : Nat := 0
  xis : List (Str × List Nat) := []
  xfs : List (Nat × Str) := []
def tyVal (cl : Nat → Addr) : Ty → Value
  | .int => .type "int"
  | .bool => .type "bool"
  | .str => .type "str"
  | .tup => .type "tuple"
  | .lst => .type "list"
  | .dict => .type "dict"
  | .none => .type "NoneType"
  | .cls c => .ref (cl c)
def tyV' (cl : Nat → Addr) : Ty → V
  | .int => .ty "int"
  | .bool => .ty "bool"
  | .str => .ty "str"
  | .tup => .ty "tuple"
  | .lst => .ty "list"
  | .dict => .ty "dict"
  | .none => .ty "NoneType"
  | .cls c => .ref (cl c)
/-- the facts behind the table -/
structure Wd (P : Program) (w : World) (K : PySem.W.Frag) (mg : Str → Option Value) (base : Heap) (cl : Nat → Addr) (Φ : Nat → List Arg → LR) (T : Tab) (j : Nat) : Prop where
  fn : ∀ t ∈ T.fns, ∃ f fd ps ds dvs, FnOk P w K mg base (L2.CX P w) j f fd ps (spL K cl (Φ t.2.1)) ∧ mg t.1 = some (.ref f) ∧ PySem.W.keepIn K (.ref f) = true ∧ Binds K fd ps ds ∧ Vals dvs ds ∧ (∀ G, RepL K cl G t.2.2 dvs) ∧ (t.1 == ("__debug__" : Str)) = false
  mkr : ∀ t ∈ T.mks, ∃ f fd ps ds dvs, Mk K (cl t.2.1) f ∧ FnOk P w K mg base (L2.CX P w) j f fd ps (spL K cl (Φ t.2.2.1)) ∧ mg t.1 = some (.ref (cl t.2.1)) ∧ Binds K fd ps ds ∧ Vals dvs ds ∧ (∀ G, RepL K cl G t.2.2.2 dvs) ∧ (t.1 == ("__debug__" : Str)) = false
  mt : ∀ t ∈ T.mts, ∃ f fd ps, Cls K (cl t.1) ∧ Meth K (cl t.1) t.2.1 f ∧ FnOk P w K mg base (L2.CX P w) j f fd ps (spL K cl (Φ t.2.2)) ∧ Binds K fd ps []
  op : ∀ t ∈ T.ops, ∃ f fd ps, PySem.W.selfFirst K (cl t.1) = true ∧ PySem.W.findIn K (.ref (cl t.1)) (PySem.dunder t.2.1.info.2) = some (some (.ref f)) ∧ PySem.W.isFn K (.ref f) = true ∧ FnOk P w K mg base (L2.CX P w) j f fd ps (spL K cl (Φ t.2.2)) ∧ Binds K fd ps []
  eq : ∀ t ∈ T.eqs, ∃ f fd ps, PySem.W.findIn K (.ref (cl t.1)) (cmpInfo .Eq).2.1 = some (some (.ref f)) ∧ PySem.W.isFn K (.ref f) = true ∧ FnOk P w K mg base (L2.CX P w) j f fd ps (spL K cl (Φ t.2)) ∧ Binds K fd ps []
  ne : ∀ t ∈ T.nes, ∃ f fd ps, PySem.W.findIn K (.ref (cl t.1)) "__ne__" = some (some (.builtin "object.__ne__")) ∧ PySem.W.mroIn K (cl t.1) (.type "object") = some true ∧ PySem.W.findIn K (.ref (cl t.1)) "__eq__" = some (some (.ref f)) ∧ PySem.W.isFn K (.ref f) = true ∧ FnOk P w K mg base (L2.CX P w) j f fd ps (spL K cl (Φ t.2)) ∧ Binds K fd ps []
  isin : ∀ t ∈ T.ins, ∃ f fd ps, PySem.W.findIn K (.ref (cl t.1)) "__contains__" = some (some (.ref f)) ∧ PySem.W.isFn K (.ref f) = true ∧ FnOk P w K mg base (L2.CX P w) j f fd ps (spL K cl (Φ t.2)) ∧ Binds K fd ps []
  len : ∀ t ∈ T.lens, ∃ f fd ps, PySem.W.findIn K (.ref (cl t.1)) "__len__" = some (some (.ref f)) ∧ PySem.W.isFn K (.ref f) = true ∧ FnOk P w K mg base (L2.CX P w) j f fd ps (spL K cl (Φ t.2)) ∧ Binds K fd ps []
  fl : ∀ t ∈ T.fls, Cls K (cl t.1) ∧ NoAttr K (cl t.1) t.2
  cs : ∀ t ∈ T.cls, mg t.1 = some (.ref (cl t.2)) ∧ (t.1 == ("__debug__" : Str)) = false
  gl : ∀ t ∈ T.gls, ∃ u v, mg t.1 = some u ∧ RelV v u ∧ (∀ G, Rep K cl G t.2 v) ∧ (t.1 == ("__debug__" : Str)) = false
  bl : ∀ x ∈ T.blts, mg x = none
  ic : ∀ c, c < T.ncl → InsCls K (cl c)
  kit : ∀ ts ∈ T.isa, KitOk K cl T.ncl ts (ts.map (tyVal cl))
  xm : ∀ t ∈ T.xs, mg t.1 = some (.ref (cl (t.2.1 + 500))) ∧ PySem.W.keepIn K (.ref (cl (t.2.1 + 500))) = true ∧ (t.1 == ("__debug__" : Str)) = false ∧ (match t.2.2 with
    | some f => ∃ fI, PX.XInit P K mg (cl (t.2.1 + 500)) fI f
    | none => PySem.W.excIn K (cl (t.2.1 + 500)) PySem.HandSPX.veTail "ValueError.__new__" = true)
  xc : ∀ c, c < T.nx → ExcC K (cl (c + 500))
  xi : ∀ t ∈ T.xis, ∃ vc u, (mg t.1 = some u ∨ (mg t.1 = none ∧ bootBuiltins t.1 = some u)) ∧ RelV vc u ∧ (∀ u', RelV vc u' → u' = u) ∧ (t.1 == ("__debug__" : Str)) = false ∧ t.1 ≠ "__name__" ∧ ∀ c, c < T.nx → PySem.W.kitOne K (.ref (cl (c + 500))) u = some (t.2.contains c)
  xf : ∀ t ∈ T.xfs, XfC K (cl (t.1 + 500)) ∧ PySem.W.findIn K (.ref (cl (t.1 + 500))) t.2 = some none
/-! ### shapes -/
def visB (sc : Scope) (x : Str) : Bool := match sc.names.lookup x with
  | some .local => true
  | some .cell => true
  | some .free => true
  | _ => false
def glB (sc : Scope) (x : Str) : Bool := match sc.names.lookup x with
  | some .globalImplicit => true
  | _ => false
def okN (x : Str) : Bool := !(x == ("__debug__" : Str)) && !(x == ("__classdict__" : Str))
def cstB (c : Const) (p : P) : Bool := match c, p with
  | .int i, .int j => decide (i = j)
  | .str s, .str t => decide (s = t)
  | .bool b, .bl d => decide (b = d)
  | .none, .non => true
  | _, _ => false
def Op1.name : Op1 → Option Str
  | .abs => some "abs"
  | .len => some "len"
  | .int => some "int"
  | .list => some "list"
  | .tuple => some "tuple"
  | .sortedI => some "sorted"
  | .str => some "str"
  | .all => some "all"
  | .any => some "any"
  | _ => none
def Ty.name : Ty → _root_.Option Str
  | .int => some "int"
  | .bool => some "bool"
  | .str => some "str"
  | .tup => some "tuple"
  | .lst => some "list"
  | .dict => some "dict"
  | _ => Option.none
def tyE (T : Tab) (sc : Scope) (t : Ty) : Expr → Bool
  | .Name x _ => glB sc x && (match t with
    | .cls c => T.cls.any fun y => decide (y.1 = x) && decide (y.2 = c)
    | t => decide (t.name = some x) && T.blts.contains x)
  | _ => false
def tyEs (T : Tab) (sc : Scope) : List Ty → List Expr → Bool
  | [], [] => true
  | t :: ts, e :: es => tyE T sc t e && noStar e && tyEs T sc ts es
  | _, _ => false
def bltE (T : Tab) (sc : Scope) (x y : Str) : Bool := decide (x = y) && glB sc x && T.blts.contains x
/-! ### views -/
def vName : Expr → Option Str
  | .Name x _ => some x
  | _ => none
def vUn : Expr → Option (UnaryOp × Expr)
  | .UnaryOp o a _ => some (o, a)
  | _ => none
def vCmp : Expr → Option (Expr × CmpOp × Expr)
  | .Compare a [o] [b] _ => some (a, o, b)
  | _ => none
def vCmp2 : Expr → Option (Expr × CmpOp × CmpOp × Expr × Expr)
  | .Compare a [o, p] [b, c] _ => some (a, o, p, b, c)
  | _ => none
def vBin : Expr → Option (Expr × Operator × Expr)
  | .BinOp a o b _ => some (a, o, b)
  | _ => none
def vSub : Expr → Option (Expr × Expr)
  | .Subscript a b _ => some (a, b)
  | _ => none
def vCall : Expr → Option (Str × List Expr)
  | .Call (.Name x _) es [] _ => some (x, es)
  | _ => none
def vMeth : Expr → Option (Expr × Str × List Expr)
  | .Call (.Attribute o m apos) es [] pos => if apos.endLine == pos.line then some (o, m, es) else none
  | _ => none
def vAttr : Expr → Option (Expr × Str)
  | .Attribute o m _ => some (o, m)
  | _ => none
def vCst : Expr → Option Const
  | .Constant c _ _ => some c
  | _ => none
def vTup : Expr → Option (List Expr)
  | .Tuple es _ _ => some es
  | _ => none
def vLst : Expr → Option (List Expr)
  | .List es _ => some es
  | _ => none
def vIf : Expr → Option (Expr × Expr × Expr)
  | .IfExp c a b _ => some (c, a, b)
  | _ => none
def vSlice : Expr → Option (Option Expr × Option Expr × Option Expr)
  | .Slice a b c _ => some (a, b, c)
  | _ => none
def vBool : Expr → Option (BoolOp × List Expr × Pos)
  | .BoolOp o es p => some (o, es, p)
  | _ => none
def vDict : Expr → Bool
  | .Dict [] [] _ => true
  | _ => false
def vLc : Expr → Option (Expr × Expr × Expr × List Expr × Scope)
  | .ListComp elt [⟨tg, iter, ifs, 0⟩] scope _ => some (elt, tg, iter, ifs, scope)
  | _ => none
def vDc : Expr → Option (Expr × Expr × Expr × Expr × List Expr × Scope)
  | .DictComp k v [⟨tg, iter, ifs, 0⟩] scope _ => some (k, v, tg, iter, ifs, scope)
  | _ => none
section
variable {e a b c : Expr}
theorem vName_ok {x : Str} (h : vName e = some x) : ∃ p, e = .Name x p := by cases e <;> first | (cases h; done) | (cases h; exact ⟨_, rfl⟩)
theorem vUn_ok {o : UnaryOp} (h : vUn e = some (o, a)) : ∃ p, e = .UnaryOp o a p := by cases e <;> first | (cases h; done) | (cases h; exact ⟨_, rfl⟩)
theorem vCmp_ok {o : CmpOp} (h : vCmp e = some (a, o, b)) : ∃ p, e = .Compare a [o] [b] p := by
  unfold vCmp at h
  split at h
  · cases h; exact ⟨_, rfl⟩
  · cases h
theorem vCmp2_ok {o p : CmpOp} (h : vCmp2 e = some (a, o, p, b, c)) : ∃ q, e = .Compare a [o, p] [b, c] q := by
  unfold vCmp2 at h
  split at h
  · cases h; exact ⟨_, rfl⟩
  · cases h
theorem vBin_ok {o : Operator} (h : vBin e = some (a, o, b)) : ∃ p, e = .BinOp a o b p := by cases e <;> first | (cases h; done) | (cases h; exact ⟨_, rfl⟩)
theorem vSub_ok (h : vSub e = some (a, b)) : ∃ p, e = .Subscript a b p := by cases e <;> first | (cases h; done) | (cases h; exact ⟨_, rfl⟩)
theorem vCall_ok {x : Str} {es : List Expr} (h : vCall e = some (x, es)) : ∃ p q, e = .Call (.Name x p) es [] q := by
  unfold vCall at h
  split at h
  · cases h; exact ⟨_, _, rfl⟩
  · cases h
theorem vMeth_ok {m : Str} {es : List Expr} (h : vMeth e = some (a, m, es)) : ∃ p q, e = .Call (.Attribute a m p) es [] q ∧ (p.endLine == q.line) = true := by
  unfold vMeth at h
  split at h
  · split at h
    · rename_i hh
      cases h; exact ⟨_, _, rfl, hh⟩
    · cases h
  · cases h
theorem vAttr_ok {m : Str} (h : vAttr e = some (a, m)) : ∃ p, e = .Attribute a m p := by cases e <;> first | (cases h; done) | (cases h; exact ⟨_, rfl⟩)
theorem vCst_ok {k : Const} (h : vCst e = some k) : ∃ j p, e = .Constant k j p := by cases e <;> first | (cases h; done) | (cases h; exact ⟨_, _, rfl⟩)
theorem vTup_ok {es : List Expr} (h : vTup e = some es) : ∃ k p, e = .Tuple es k p := by cases e <;> first | (cases h; done) | (cases h; exact ⟨_, _, rfl⟩)
theorem vLst_ok {es : List Expr} (h : vLst e = some es) : ∃ p, e = .List es p := by cases e <;> first | (cases h; done) | (cases h; exact ⟨_, rfl⟩)
theorem vIf_ok (h : vIf e = some (c, a, b)) : ∃ p, e = .IfExp c a b p := by cases e <;> first | (cases h; done) | (cases h; exact ⟨_, rfl⟩)
theorem vSlice_ok {x y z : Option Expr} (h : vSlice e = some (x, y, z)) : ∃ p, e = .Slice x y z p := by cases e <;> first | (cases h; done) | (cases h; exact ⟨_, rfl⟩)
theorem vBool_ok {o : BoolOp} {es : List Expr} {p : Pos} (h : vBool e = some (o, es, p)) : e = .BoolOp o es p := by cases e <;> first | (cases h; done) | (cases h; rfl)
theorem vDict_ok (h : vDict e = true) : ∃ p, e = .Dict [] [] p := by
  unfold vDict at h
  split at h
  · exact ⟨_, rfl⟩
  · cases h
theorem vLc_ok {elt tg iter : Expr} {ifs : List Expr} {scope : Scope} (h : vLc e = some (elt, tg, iter, ifs, scope)) : ∃ p, e = .ListComp elt [⟨tg, iter, ifs, 0⟩] scope p := by
  unfold vLc at h
  split at h
  · cases h; exact ⟨_, rfl⟩
  · cases h
theorem vDc_ok {k v tg iter : Expr} {ifs : List Expr} {scope : Scope} (h : vDc e = some (k, v, tg, iter, ifs, scope)) : ∃ p, e = .DictComp k v [⟨tg, iter, ifs, 0⟩] scope p := by
  unfold vDc at h
  split at h
  · cases h; exact ⟨_, rfl⟩
  · cases h
end
theorem if_some {α : Type} {c : Bool} {a b : α} (h : (if c then some a else none) = some b) : c = true ∧ a = b := by
  cases c with
  | true => exact ⟨rfl, Option.some.inj h⟩
  | false => cases h
def isaB (T : Tab) (sc : Scope) (ts : List Ty) (c : Expr) : Bool := match vTup c with
  | some cs => decide (ts.length ≤ 99) && tyEs T sc ts cs
  | none => noStar c && (match ts with
    | [t] => tyE T sc t c
    | _ => false)
def isNonB (e : Expr) : Bool := match vCst e with
  | some .none => true
  | _ => false
def isOneB (e : Expr) : Bool := match vCst e with
  | some (.int i) => decide (i = 1)
  | _ => false
theorem isNonB_ok {e : Expr} (h : isNonB e = true) : ∃ j p, e = .Constant .none j p := by
  unfold isNonB at h
  cases hv : vCst e with
  | none => rw [hv] at h; cases h
  | some k =>
    rw [hv] at h
    obtain ⟨j, p, rfl⟩ := vCst_ok hv
    cases k <;> first | exact ⟨j, p, rfl⟩ | cases h
theorem isOneB_ok {e : Expr} (h : isOneB e = true) : ∃ j p, e = .Constant (.int 1) j p := by
  unfold isOneB at h
  cases hv : vCst e with
  | none => rw [hv] at h; cases h
  | some k =>
    rw [hv] at h
    obtain ⟨j, p, rfl⟩ := vCst_ok hv
    cases k <;> first | (cases h; done) | skip
    exact ⟨j, p, by rw [of_decide_eq_true h]⟩
/-- the operand of a one-place operation -/
def o1E (T : Tab) (sc : Scope) (o : Op1) (e : Expr) : Option Expr := match o with
  | .neg => match vUn e with
    | some (.USub, a) => some a
    | _ => none
  | .not => match vUn e with
    | some (.Not, a) => some a
    | _ => none
  | .isN => match vCmp e with
    | some (a, .Is, b) => if isNonB b then some a else none
    | _ => none
  | .notN => match vCmp e with
    | some (a, .IsNot, b) => if isNonB b then some a else none
    | _ => none
  | .rev => match vSub e with
    | some (a, s) => match vSlice s with
      | some (none, none, some t) => match vUn t with
        | some (.USub, u) => if isOneB u then some a else none
        | _ => none
      | _ => none
    | _ => none
  | .itemsL => match vCall e with
    | some (x, [c]) => match vMeth c with
      | some (a, m, []) => if bltE T sc x "list" && decide (m = ("items" : Str)) && plainBase a then some a else none
      | _ => none
    | _ => none
  | .isA n ts => match vCall e with
    | some (x, [a, c]) => if bltE T sc x "isinstance" && noStar a && decide (n = T.ncl) && decide (ts ∈ T.isa) && isaB T sc ts c then some a else none
    | _ => none
  | .isX n t cs => match vCall e with
    | some (x, [a, c]) => (match vName c with
      | some y => if bltE T sc x "isinstance" && noStar a && decide (n = T.nx) && glB sc y && decide (T.xis[t]? = some (y, cs)) then some a else none
      | none => none)
    | _ => none
  | .xf c f => match vAttr e with
    | some (a, m) => if decide (m = f) && plainBase a && decide ((c, f) ∈ T.xfs) then some a else none
    | none => none
  | o => match vCall e with
    | some (x, [a]) => if decide (o.name = some x) && glB sc x && T.blts.contains x && noStar a then some a else none
    | _ => none
section
variable {X : Cx} {cl : Nat → Addr} {W : WX} {Φ : Nat → List Arg → LR} {T : Tab} {j : Nat} {sc : Scope}
theorem gl_of {x : Str} (hs : X.env.scope = sc) (h : glB sc x = true) : Gl X x := by
  unfold glB at h
  split at h
  · unfold Gl Env.kindOf
    rw [hs]
    assumption
  · cases h
theorem vis_of {x : Str} (hs : X.env.scope = sc) (h : visB sc x = true) : Vis X.env.scope x := by
  unfold visB at h
  unfold Vis
  rw [hs]
  split at h <;> first | exact .inl (by assumption) | exact .inr (.inl (by assumption)) | exact .inr (.inr (by assumption)) | cases h
theorem o1_call (hc : X.calm = true) {o : Op1} {x : Str} (h : o.name = some x) : (∀ W' : XK, (∃ id, bootBuiltins x = some (.builtin id) ∧ CallR X (.builtin id) (RC1 X cl W' o)) ∨ ∃ t, bootBuiltins x = some (.type t) ∧ CallR X (.type t) (RC1 X cl W' o)) ∧ x ≠ "__name__" ∧ (x == ("__debug__" : Str)) = false := by
  cases o <;> simp only [Op1.name] at h <;> cases h
  · exact ⟨fun W' => .inl ⟨_, by first | rfl | decide +kernel, call_abs_ok⟩, by decide +kernel, by decide +kernel⟩
  · exact ⟨fun W' => .inl ⟨_, by first | rfl | decide +kernel, call_len_ok⟩, by decide +kernel, by decide +kernel⟩
  · exact ⟨fun W' => .inr ⟨_, by first | rfl | decide +kernel, call_int_ok⟩, by decide +kernel, by decide +kernel⟩
  · exact ⟨fun W' => .inr ⟨_, by first | rfl | decide +kernel, call_list_ok⟩, by decide +kernel, by decide +kernel⟩
  · exact ⟨fun W' => .inr ⟨_, by first | rfl | decide +kernel, call_tuple_ok⟩, by decide +kernel, by decide +kernel⟩
  · exact ⟨fun W' => .inl ⟨_, by first | rfl | decide +kernel, call_sorted_ok hc⟩, by decide +kernel, by decide +kernel⟩
  · exact ⟨fun W' => .inr ⟨_, by first | rfl | decide +kernel, call_str_ok⟩, by decide +kernel, by decide +kernel⟩
  · exact ⟨fun W' => .inl ⟨_, by first | rfl | decide +kernel, call_all_ok hc W'⟩, by decide +kernel, by decide +kernel⟩
  · exact ⟨fun W' => .inl ⟨_, by first | rfl | decide +kernel, call_any_ok hc W'⟩, by decide +kernel, by decide +kernel⟩
theorem e_o1c (hc : X.calm = true) (hs : X.env.scope = sc) {o : Op1} {x : Str} {a : Expr} {p pos : Pos} {f : List (Option D) → Sto → Res D} (h : o.name = some x) (hg : glB sc x = true) (hm : X.mg x = none) (hst : noStar a = true) (ha : PE X a (tE X cl W f)) :
    PE X (.Call (.Name x p) [a] [] pos) (tE X cl W fun ρ S => (f ρ S).bind fun d S => optR ((view S d).bind fun x => (prim1 o x).map .p) S) := by
  obtain ⟨h1, h2, h3⟩ := o1_call (cl := cl) hc h
  refine e_call1 (a := a) fun W' => ?_
  rcases h1 W' with ⟨id, hb, hr⟩ | ⟨t, hb, hr⟩
  · exact pe_callB hr (gl_of hs hg) hm hb (pa_cons ha pa_nil (star_cons hst)) (he := star_cons hst) (hpl := rfl) (hn := h2) (hdb := h3)
  · exact pe_callTy hr (gl_of hs hg) hm hb (pa_cons ha pa_nil (star_cons hst)) (he := star_cons hst) (hpl := rfl) (hn := h2) (hdb := h3)
theorem ty_pe (hs : X.env.scope = sc) (wd : Wd X.prog X.w X.K X.mg X.base cl Φ T j) {t : Ty} {c : Expr} (h : tyE T sc t c = true) : PE X c (tC (tyV' cl t)) ∧ ClsV (tyV' cl t) (tyVal cl t) := by
  cases c <;> first | (cases h; done) | skip
  rename_i x pos
  simp only [tyE, Bool.and_eq_true] at h
  obtain ⟨hg, h⟩ := h
  have bi : ∀ {y : Str} {n : String}, x = y → T.blts.contains x = true → bootBuiltins y = some (.type n) → y ≠ "__name__" → (y == ("__debug__" : Str)) = false → PE X (.Name x pos) (tC (.ty n)) := fun e hb hv hn hd => by
    subst e
    exact pe_bltn (gl_of hs hg) (wd.bl x (by simpa using hb)) hv rfl hn hd
  cases t with
  | cls c =>
    dsimp only at h
    rw [List.any_eq_true] at h
    obtain ⟨y, hy, h⟩ := h
    simp only [Bool.and_eq_true, decide_eq_true_eq] at h
    obtain ⟨e1, e2⟩ := h
    obtain ⟨hm, hd⟩ := wd.cs y hy
    subst e1; subst e2
    exact ⟨pe_glob (gl_of hs hg) hm rfl hd, .own _⟩
  | none => simp only [Ty.name, Bool.and_eq_true, decide_eq_true_eq] at h; cases h.1
  | int =>
    simp only [Ty.name, Bool.and_eq_true, decide_eq_true_eq, Option.some.injEq] at h
    exact ⟨bi h.1.symm h.2 (by first | rfl | decide +kernel) (by decide +kernel) (by decide +kernel), .ty _⟩
  | bool =>
    simp only [Ty.name, Bool.and_eq_true, decide_eq_true_eq, Option.some.injEq] at h
    exact ⟨bi h.1.symm h.2 (by first | rfl | decide +kernel) (by decide +kernel) (by decide +kernel), .ty _⟩
  | str =>
    simp only [Ty.name, Bool.and_eq_true, decide_eq_true_eq, Option.some.injEq] at h
    exact ⟨bi h.1.symm h.2 (by first | rfl | decide +kernel) (by decide +kernel) (by decide +kernel), .ty _⟩
  | tup =>
    simp only [Ty.name, Bool.and_eq_true, decide_eq_true_eq, Option.some.injEq] at h
    exact ⟨bi h.1.symm h.2 (by first | rfl | decide +kernel) (by decide +kernel) (by decide +kernel), .ty _⟩
  | lst =>
    simp only [Ty.name, Bool.and_eq_true, decide_eq_true_eq, Option.some.injEq] at h
    exact ⟨bi h.1.symm h.2 (by first | rfl | decide +kernel) (by decide +kernel) (by decide +kernel), .ty _⟩
  | dict =>
    simp only [Ty.name, Bool.and_eq_true, decide_eq_true_eq, Option.some.injEq] at h
    exact ⟨bi h.1.symm h.2 (by first | rfl | decide +kernel) (by decide +kernel) (by decide +kernel), .ty _⟩
theorem tys_pe (hs : X.env.scope = sc) (wd : Wd X.prog X.w X.K X.mg X.base cl Φ T j) : ∀ {ts : List Ty} {es : List Expr}, tyEs T sc ts es = true → PA X es (fun σ H Q => Q (ts.map (tyV' cl)) H) ∧ Paired ClsV (ts.map (tyV' cl)) (ts.map (tyVal cl))
  | [], [], _ => ⟨pa_nil.imp fun σ H Q h => h, .nil⟩
  | t :: ts, e :: es, h => by
    have h' : (tyE T sc t e && noStar e && tyEs T sc ts es) = true := h
    simp only [Bool.and_eq_true] at h'
    obtain ⟨h1, h2⟩ := ty_pe hs wd h'.1.1
    obtain ⟨h3, h4⟩ := tys_pe hs wd h'.2
    exact ⟨(pa_cons h1 h3 (star_cons h'.1.2)).imp fun σ H Q h => h, .cons h2 h4⟩
  | [], _ :: _, h => by cases h
  | _ :: _, [], h => by cases h
theorem tys_len : ∀ {ts : List Ty} {es : List Expr}, tyEs T sc ts es = true → ts.length = es.length
  | [], [], _ => rfl
  | t :: ts, e :: es, h => by
    have h' : (tyE T sc t e && noStar e && tyEs T sc ts es) = true := h
    simp only [Bool.and_eq_true] at h'
    simp [tys_len h'.2]
  | [], _ :: _, h => by cases h
  | _ :: _, [], h => by cases h
/-- an expression's two rules: its value, its value as a test -/
def Two (X : Cx) (e : Expr) (t : TE) : Prop := PE X e t ∧ (plainTest e = true ∨ (∃ a op b pos, e = .Compare a [op] [b] pos) → PT X e (tTru X t))
theorem Two.plain {e : Expr} {t : TE} (h : PE X e t) (hc : ∀ a op b pos, e ≠ .Compare a [op] [b] pos) : Two X e t := ⟨h, fun z => z.elim (fun z => pt_plain h z) fun ⟨a, op, b, pos, z⟩ => absurd z (hc a op b pos)⟩
theorem Two.cmp {a b : Expr} {op : CmpOp} {pos : Pos} {t : TE} (h : PC X op a b t) (h1 : behindInMarks op b = false) : Two X (.Compare a [op] [b] pos) t := ⟨pe_cmp h h1, fun _ => pt_cmp1 h h1⟩
theorem blt_of {x y : Str} (h : bltE T sc x y = true) : x = y ∧ glB sc x = true ∧ x ∈ T.blts := by
  simpa [bltE, Bool.and_eq_true, and_assoc] using h
theorem o1_call_ok (hs : X.env.scope = sc) (hc : X.calm = true) (wd : Wd X.prog X.w X.K X.mg X.base cl Φ T j) {o : Op1} {e a : Expr} {f : List (Option D) → Sto → Res D} (h : (match vCall e with
    | some (x, [a]) => if decide (o.name = some x) && glB sc x && T.blts.contains x && noStar a then some a else none
    | _ => none) = some a) (ha : PE X a (tE X cl W f)) : Two X e (tE X cl W fun ρ S => (f ρ S).bind fun d S => optR ((view S d).bind fun x => (prim1 o x).map .p) S) := by
  cases hv : vCall e with
  | none => rw [hv] at h; cases h
  | some q =>
    obtain ⟨x, es⟩ := q
    obtain ⟨p, q, rfl⟩ := vCall_ok hv
    rw [hv] at h
    rcases es with _ | ⟨a', _ | ⟨b, es⟩⟩ <;> first | (cases h; done) | skip
    obtain ⟨hh, rfl⟩ := if_some h
    simp only [Bool.and_eq_true, decide_eq_true_eq] at hh
    exact .plain (e_o1c hc hs hh.1.1.1 hh.1.1.2 (wd.bl x (by simpa using hh.1.2)) hh.2 ha) (fun _ _ _ _ z => nomatch z)
theorem o1_ok (hs : X.env.scope = sc) (hc : X.calm = true) (hu : X.A.units + 66 < cLine) (wd : Wd X.prog X.w X.K X.mg X.base cl Φ T j) {o : Op1} {e a : Expr} {f : List (Option D) → Sto → Res D} (h : o1E T sc o e = some a) (ha : PE X a (tE X cl W f)) :
    Two X e (tE X cl W fun ρ S => (f ρ S).bind fun d S => optR ((view S d).bind fun x => (prim1 o x).map .p) S) := by
  cases o with
  | neg =>
    simp only [o1E] at h
    cases hv : vUn e with
    | none => rw [hv] at h; cases h
    | some q =>
      obtain ⟨op, x⟩ := q
      obtain ⟨p, rfl⟩ := vUn_ok hv
      rw [hv] at h
      cases op <;> cases h
      exact .plain (e_un un_neg_ok ha) (fun _ _ _ _ z => nomatch z)
  | not =>
    simp only [o1E] at h
    cases hv : vUn e with
    | none => rw [hv] at h; cases h
    | some q =>
      obtain ⟨op, x⟩ := q
      obtain ⟨p, rfl⟩ := vUn_ok hv
      rw [hv] at h
      cases op <;> cases h
      exact ⟨e_not ha, fun z => z.elim (fun z => by cases z) fun ⟨_, _, _, _, z⟩ => nomatch z⟩
  | isN =>
    simp only [o1E] at h
    cases hv : vCmp e with
    | none => rw [hv] at h; cases h
    | some q =>
      obtain ⟨x, op, y⟩ := q
      obtain ⟨p, rfl⟩ := vCmp_ok hv
      rw [hv] at h
      cases op <;> first | (cases h; done) | skip
      obtain ⟨hh, rfl⟩ := if_some h
      obtain ⟨jj, pp, rfl⟩ := isNonB_ok hh
      exact .cmp (c_isN (.inl ⟨rfl, rfl⟩) ha) (nomark _)
  | notN =>
    simp only [o1E] at h
    cases hv : vCmp e with
    | none => rw [hv] at h; cases h
    | some q =>
      obtain ⟨x, op, y⟩ := q
      obtain ⟨p, rfl⟩ := vCmp_ok hv
      rw [hv] at h
      cases op <;> first | (cases h; done) | skip
      obtain ⟨hh, rfl⟩ := if_some h
      obtain ⟨jj, pp, rfl⟩ := isNonB_ok hh
      exact .cmp (c_isN (.inr ⟨rfl, rfl⟩) ha) (nomark _)
  | rev =>
    simp only [o1E] at h
    cases hv : vSub e with
    | none => rw [hv] at h; cases h
    | some q =>
      obtain ⟨x, y⟩ := q
      obtain ⟨p, rfl⟩ := vSub_ok hv
      rw [hv] at h
      dsimp only at h
      cases hv2 : vSlice y with
      | none => rw [hv2] at h; cases h
      | some q =>
        obtain ⟨u, v, w⟩ := q
        obtain ⟨p2, rfl⟩ := vSlice_ok hv2
        rw [hv2] at h
        cases u <;> cases v <;> cases w <;> first | (cases h; done) | skip
        rename_i t
        dsimp only at h
        cases hv3 : vUn t with
        | none => rw [hv3] at h; cases h
        | some q =>
          obtain ⟨op, z⟩ := q
          obtain ⟨p3, rfl⟩ := vUn_ok hv3
          rw [hv3] at h
          cases op <;> first | (cases h; done) | skip
          obtain ⟨hh, rfl⟩ := if_some h
          obtain ⟨jj, pp, rfl⟩ := isOneB_ok hh
          exact .plain (e_rev ha) (fun _ _ _ _ z => nomatch z)
  | itemsL =>
    simp only [o1E] at h
    cases hv : vCall e with
    | none => rw [hv] at h; cases h
    | some q =>
      obtain ⟨x, es⟩ := q
      obtain ⟨p, q, rfl⟩ := vCall_ok hv
      rw [hv] at h
      rcases es with _ | ⟨c, _ | ⟨b, es⟩⟩ <;> first | (cases h; done) | skip
      dsimp only at h
      cases hv2 : vMeth c with
      | none => rw [hv2] at h; cases h
      | some q2 =>
        obtain ⟨a', m, es2⟩ := q2
        obtain ⟨p2, q2, rfl, hl⟩ := vMeth_ok hv2
        rw [hv2] at h
        cases es2 <;> first | (cases h; done) | skip
        obtain ⟨hh, rfl⟩ := if_some h
        simp only [Bool.and_eq_true, decide_eq_true_eq] at hh
        obtain ⟨⟨h1, h2⟩, h3⟩ := hh
        obtain ⟨rfl, hg, hb⟩ := blt_of h1
        subst h2
        exact .plain (e_items hc (gl_of hs hg) (wd.bl _ hb) h3 hl ha) (fun _ _ _ _ z => nomatch z)
  | isA n ts =>
    simp only [o1E] at h
    cases hv : vCall e with
    | none => rw [hv] at h; cases h
    | some q =>
      obtain ⟨x, es⟩ := q
      obtain ⟨p, q, rfl⟩ := vCall_ok hv
      rw [hv] at h
      rcases es with _ | ⟨a', _ | ⟨c, _ | ⟨b, es⟩⟩⟩ <;> first | (cases h; done) | skip
      obtain ⟨hh, rfl⟩ := if_some h
      simp only [Bool.and_eq_true, decide_eq_true_eq] at hh
      obtain ⟨⟨⟨⟨h1, h2⟩, h3⟩, h4⟩, h5⟩ := hh
      obtain ⟨rfl, hg, hb⟩ := blt_of h1
      subst h3
      have kit := wd.kit ts h4
      unfold isaB at h5
      cases hv2 : vTup c with
      | some cs =>
        obtain ⟨k2, p2, rfl⟩ := vTup_ok hv2
        rw [hv2] at h5
        simp only [Bool.and_eq_true, decide_eq_true_eq] at h5
        obtain ⟨hz, h5⟩ := h5
        obtain ⟨q1, q2⟩ := tys_pe hs wd h5
        exact .plain (e_isAT wd.ic kit q2 (by rw [List.length_map, sizeLine_eq]; omega) q1 (gl_of hs hg) (wd.bl _ hb) h2 ha) (fun _ _ _ _ z => nomatch z)
      | none =>
        rw [hv2] at h5
        simp only [Bool.and_eq_true] at h5
        obtain ⟨h5, h6⟩ := h5
        rcases ts with _ | ⟨t, _ | ⟨t2, ts⟩⟩ <;> first | (cases h6; done) | skip
        obtain ⟨q1, q2⟩ := ty_pe hs wd h6
        exact .plain (e_isA1 wd.ic kit q2 q1 (gl_of hs hg) (wd.bl _ hb) h2 h5 ha) (fun _ _ _ _ z => nomatch z)
  | isX n t cs =>
    simp only [o1E] at h
    cases hv : vCall e with
    | none => rw [hv] at h; cases h
    | some q =>
      obtain ⟨x, es⟩ := q
      obtain ⟨p, q, rfl⟩ := vCall_ok hv
      rw [hv] at h
      rcases es with _ | ⟨a', _ | ⟨c, _ | ⟨b, es⟩⟩⟩ <;> first | (cases h; done) | skip
      dsimp only at h
      cases hv2 : vName c with
      | none => rw [hv2] at h; cases h
      | some y =>
        obtain ⟨p2, rfl⟩ := vName_ok hv2
        rw [hv2] at h
        obtain ⟨hh, rfl⟩ := if_some h
        simp only [Bool.and_eq_true, decide_eq_true_eq] at hh
        obtain ⟨⟨⟨⟨h1, h2⟩, h3⟩, h4⟩, h5⟩ := hh
        obtain ⟨rfl, hg, hb⟩ := blt_of h1
        subst h3
        obtain ⟨vc, u, hy, rv, ru, hd, hn, hk⟩ := wd.xi _ (List.mem_of_getElem? h5)
        have pe : PE X (.Name y p2) (tC vc) := hy.elim (fun z => pe_glob (gl_of hs h4) z rv hd) fun z => pe_bltn (gl_of hs h4) z.1 z.2 rv hn hd
        exact .plain (e_isX (t := t) wd.xc hk ru pe (gl_of hs hg) (wd.bl _ hb) h2 rfl ha) (fun _ _ _ _ z => nomatch z)
  | xf c f =>
    simp only [o1E] at h
    cases hv : vAttr e with
    | none => rw [hv] at h; cases h
    | some q =>
      obtain ⟨a', m⟩ := q
      obtain ⟨p, rfl⟩ := vAttr_ok hv
      rw [hv] at h
      obtain ⟨hh, rfl⟩ := if_some h
      simp only [Bool.and_eq_true, decide_eq_true_eq] at hh
      obtain ⟨⟨rfl, h2⟩, h3⟩ := hh
      obtain ⟨t1, t2⟩ := wd.xf _ h3
      exact .plain (e_xf t1 t2 (base_plain h2) ha) (fun _ _ _ _ z => nomatch z)
  | abs => exact o1_call_ok hs hc wd h ha
  | len => exact o1_call_ok hs hc wd h ha
  | int => exact o1_call_ok hs hc wd h ha
  | list => exact o1_call_ok hs hc wd h ha
  | tuple => exact o1_call_ok hs hc wd h ha
  | sortedI => exact o1_call_ok hs hc wd h ha
  | str => exact o1_call_ok hs hc wd h ha
  | all => exact o1_call_ok hs hc wd h ha
  | any => exact o1_call_ok hs hc wd h ha
end
end PD
/-! The check: expressions. -/
namespace PD
open PySem L2 PySem.Spec PyProof.Rows
def o2E (o : Op2) (e : Expr) : Option (Expr × Expr) := match o with
  | .ix => match vSub e with
    | some (a, b) => if noSlice b then some (a, b) else none
    | none => none
  | o => match vBin e with
    | some (a, op, b) => if decide (opOf op = some o) then some (a, b) else none
    | none => match vCmp e with
      | some (a, op, b) => if decide (cmpOf op = some o) && !behindInMarks op b then some (a, b) else none
      | none => none
def isNonI : IE → Bool
  | .cst .non => true
  | _ => false
def noSet : Expr → Bool
  | .Set _ _ _ => false
  | _ => true
def isTT : IT → Bool
  | .tt => true
  | _ => false
def locB (sc : Scope) (x : Str) : Bool := match sc.names.lookup x with
  | some .local => true
  | some .cell => true
  | _ => false
def isLoc (sc : Scope) (x : Str) : Bool := match sc.names.lookup x with
  | some .local => true
  | _ => false
/-- a name stored to; fnB: names whose cells are made at the entry -/
def nameB (N : List Str) (fnB : Str → Bool) (sc : Scope) (e : Expr) (i : Nat) : Bool := match vName e with
  | some x => decide (N[i]? = some x) && locB sc x && (fnB x || isLoc sc x)
  | none => false
def namesB (N : List Str) (fnB : Str → Bool) (sc : Scope) : List Expr → List Nat → Bool
  | [], [] => true
  | e :: es, i :: is => nameB N fnB sc e i && namesB N fnB sc es is
  | _, _ => false
def tgB (N : List Str) (fnB : Str → Bool) (sc : Scope) (tg : Tg) (e : Expr) : Bool := match tg with
  | .nm i => nameB N fnB sc e i
  | .tp is => match vTup e with
    | some es => namesB N fnB sc es is
    | none => false
def ownOf (N : List Str) (own : List Nat) : List (Str × Nat) := own.map fun i => (N.getD i "", i)
def blkB (N : List Str) (sc scope : Scope) (own : List Nat) (tg : Tg) (tge iter : Expr) : Bool :=
  blkC N sc scope (ownOf N own) && tgB N (fun x => scope.names.lookup x == some .cell) (relS scope sc) tg tge && tg.names.all (fun i => own.contains i) && noSet iter
def vCallK : Expr → Option (Str × Str × Expr)
  | .Call (.Name x _) [] [⟨some nm, y, _⟩] _ => some (x, nm, y)
  | _ => none
theorem vCallK_ok {e y : Expr} {x nm : Str} (h : vCallK e = some (x, nm, y)) : ∃ p q r, e = .Call (.Name x p) [] [⟨some nm, y, r⟩] q := by
  unfold vCallK at h
  split at h
  · cases h; exact ⟨_, _, _, rfl⟩
  · cases h
variable (T : Tab) (N : List Str)
mutual
def ckE : IE → Scope → Expr → Bool
  | .var i => fun sc e => match vName e with
    | some x => decide (N[i]? = some x) && visB sc x && okN x
    | none => false
  | .cst p => fun sc e => match vCst e with
    | some c => cstB c p
    | none => match vName e with
      | some x => glB sc x && T.gls.any fun t => decide (t.1 = x) && P.eqb t.2 p
      | none => false
  | .o1 o a => fun sc e => match o1E T sc o e with
    | some x => ckE a sc x
    | none => false
  | .o2 o a b => fun sc e => match o2E o e with
    | some (x, y) => ckE a sc x && ckE b sc y
    | none => false
  | .get a b c => fun sc e => match vMeth e with
    | some (o, m, [x, y]) => decide (m = ("get" : Str)) && plainBase o && noStar x && noStar y && ckE a sc o && ckE b sc x && ckE c sc y
    | _ => false
  | .slice a bl bh lo hi => fun sc e => match vSub e with
    | some (o, s) => match vSlice s with
      | some (l, h, none) => decide (bl = l.isSome) && decide (bh = h.isSome) && ckE a sc o && (match l with
          | some x => ckE lo sc x
          | none => isNonI lo) && (match h with
          | some x => ckE hi sc x
          | none => isNonI hi)
      | _ => false
    | none => false
  | .and a b => fun sc e => match vBool e with
    | some (.And, x :: y :: r, p) => ckE a sc x && (match r with
      | [] => ckE b sc y
      | z :: r => ckE b sc (.BoolOp .And (y :: z :: r) p))
    | _ => false
  | .or a b => fun sc e => match vBool e with
    | some (.Or, x :: y :: r, p) => ckE a sc x && (match r with
      | [] => ckE b sc y
      | z :: r => ckE b sc (.BoolOp .Or (y :: z :: r) p))
    | _ => false
  | .ifx c a b => fun sc e => match vIf e with
    | some (t, x, y) => ckT c sc t && ckE a sc x && ckE b sc y
    | none => false
  | .chain o p a b c => fun sc e => match vCmp2 e with
    | some (x, op, op', y, z) => decide (cmpOf op = some o) && decide (cmpOf op' = some p) && !lastMarks [op, op'] [y, z] && ckE a sc x && ckE b sc y && ckE c sc z
    | none => false
  | .tup l => fun sc e => match vTup e with
    | some es => es.all noStar && ckL l sc es
    | none => false
  | .lst _ l => fun sc e => match vLst e with
    | some es => es.all noStar && ckL l sc es
    | none => false
  | .dnew => fun _ e => vDict e
  | .call _ i dfl l => fun sc e => match vCall e with
    | some (x, es) => es.all noStar && glB sc x && (T.fns.any fun t => decide (t.1 = x) && decide (t.2.1 = i) && P.eqbs t.2.2 dfl) && ckL l sc es
    | none => false
  | .meth _ c m i l => fun sc e => match l with
    | .nil => false
    | .cons a l => match vMeth e with
      | some (o, m', es) => decide (m' = m) && (T.mts.any fun t => decide (t.1 = c) && decide (t.2.1 = m) && decide (t.2.2 = i)) && plainBase o && es.all noStar && decide (es.length < 30) && ckE a sc o && ckL l sc es
      | none => false
  | .own1 c i a => fun sc e => match vCall e with
    | some (x, [y]) => bltE T sc x "len" && (T.lens.any fun t => decide (t.1 = c) && decide (t.2 = i)) && noStar y && ckE a sc y
    | _ => false
  | .own2 c i a b => fun sc e => match vBin e with
    | some (x, op, y) => (T.ops.any fun t => decide (t.1 = c) && decide (t.2.1 = op) && decide (t.2.2 = i)) && ckE a sc x && ckE b sc y
    | none => match vCmp e with
      | some (x, .Eq, y) => (T.eqs.any fun t => decide (t.1 = c) && decide (t.2 = i)) && ckE a sc x && ckE b sc y
      | _ => false
  | .ne c i a b => fun sc e => match vCmp e with
    | some (x, .NotEq, y) => (T.nes.any fun t => decide (t.1 = c) && decide (t.2 = i)) && ckE a sc x && ckE b sc y
    | _ => false
  | .isin c i a b => fun sc e => match vCmp e with
    | some (x, .In, y) => (T.ins.any fun t => decide (t.1 = c) && decide (t.2 = i)) && !behindInMarks .In y && ckE a sc x && ckE b sc y
    | _ => false
  | .mkx kw c f l => fun sc e => if kw then (match vCallK e with
      | some (x, nm, y) => glB sc x && (T.xs.any fun t => decide (t.1 = x) && decide (t.2.1 = c) && decide (t.2.2 = f)) && decide (f = some nm) && ckL l sc [y]
      | none => false) else (match vCall e with
      | some (x, y :: es) => noStar y && es.all noStar && glB sc x && (T.xs.any fun t => decide (t.1 = x) && decide (t.2.1 = c) && decide (t.2.2 = f)) && ckL l sc (y :: es)
      | _ => false)
  | .mk _ c i dfl l => fun sc e => match vCall e with
    | some (x, es) => es.all noStar && glB sc x && (T.mks.any fun t => decide (t.1 = x) && decide (t.2.1 = c) && decide (t.2.2.1 = i) && P.eqbs t.2.2.2 dfl) && ckL l sc es
    | none => false
  | .fld c f a => fun sc e => match vAttr e with
    | some (o, m) => decide (m = f) && (T.fls.any fun t => decide (t.1 = c) && decide (t.2 = f)) && plainBase o && ckE a sc o
    | none => false
  | .mut m o a => fun sc e => match vMeth e with
    | some (x, n, [y]) => (match m with
      | .append => decide (n = ("append" : Str))
      | .extend => decide (n = ("extend" : Str))
      | .remove => false) && plainBase x && noStar y && ckE o sc x && ckE a sc y
    | _ => false
  | .lc _ own elt tg src cond => fun sc e => match vLc e with
    | some (x, tge, iter, ifs, scope) => blkB N sc scope own tg tge iter && ckS src sc iter && (match ifs with
      | [] => isTT cond
      | [c] => ckT cond (relS scope sc) c
      | _ => false) && ckE elt (relS scope sc) x
    | none => false
  | .dc _ own k v tg src cond => fun sc e => match vDc e with
    | some (x, y, tge, iter, ifs, scope) => blkB N sc scope own tg tge iter && ckS src sc iter && (match ifs with
      | [] => isTT cond
      | [c] => ckT cond (relS scope sc) c
      | _ => false) && ckE k (relS scope sc) x && ckE v (relS scope sc) y
    | none => false
def ckT : IT → Scope → Expr → Bool
  | .tt => fun _ _ => false
  | .tr a => fun sc e => (plainTest e || (vCmp e).isSome) && ckE a sc e
  | .not t => fun sc e => match vUn e with
    | some (.Not, x) => ckT t sc x
    | _ => false
  | .and t u => fun sc e => match vBool e with
    | some (.And, x :: y :: r, p) => ckT t sc x && (match r with
      | [] => ckT u sc y
      | z :: r => ckT u sc (.BoolOp .And (y :: z :: r) p))
    | _ => false
  | .or t u => fun sc e => match vBool e with
    | some (.Or, x :: y :: r, p) => ckT t sc x && (match r with
      | [] => ckT u sc y
      | z :: r => ckT u sc (.BoolOp .Or (y :: z :: r) p))
    | _ => false
def ckL : IL → Scope → List Expr → Bool
  | .nil => fun _ es => es.isEmpty
  | .cons a l => fun sc es => match es with
    | [] => false
    | e :: es => ckE a sc e && ckL l sc es
def ckS : Src → Scope → Expr → Bool
  | .seq a => fun sc e => ckE a sc e
  | .rng1 a => fun sc e => match vCall e with
    | some (x, [y]) => bltE T sc x "range" && noStar y && ckE a sc y
    | _ => false
  | .rng2 a b => fun sc e => match vCall e with
    | some (x, [y, z]) => bltE T sc x "range" && noStar y && noStar z && ckE a sc y && ckE b sc z
    | _ => false
  | .items _ => fun _ _ => false
  | .enum _ => fun _ _ => false
  | .zip _ _ => fun _ _ => false
end
end PD
/-! The check is sound: expressions. -/
namespace PD
open PySem L2 PySem.Spec PyProof.Rows
variable {cl : Nat → Addr} {Φ : Nat → List Arg → LR} {T : Tab} {N : List Str} {j : Nat}
/-- a context that bears the facts -/
structure Good (X : Cx) (cl : Nat → Addr) (Φ : Nat → List Arg → LR) (T : Tab) (N : List Str) (j : Nat) (sc : Scope) (W : WX) : Prop where
  wd : Wd X.prog X.w X.K X.mg X.base cl Φ T j
  hN : X.N = N
  nd : N.Nodup
  sc : X.env.scope = sc
  calm : X.calm = true
  room : Room (j + 1) X.A
  tk : Takes X W
section
variable {X : Cx} {sc : Scope} {W : WX}
theorem Good.hu (g : Good X cl Φ T N j sc W) : X.A.units + 66 < cLine := by
  have := g.room.un
  omega
theorem takesN : Takes X WN := fun _ _ x => by
  obtain ⟨_, _, _, _, _, _, _, _, _, _, _, _, _, _, _, _, z⟩ := x
  exact z.elim
theorem Good.blk (g : Good X cl Φ T N j sc W) (s : Shared) (H : Hp) (scope : Scope) (C : Addr) (cll : List (Str × Addr)) (fp : List Addr) : Good (X.blk s H scope (compEnvC scope cll C X.env) fp) cl Φ T N j (relS scope sc) WN :=
  ⟨g.wd, g.hN, g.nd, by show relS scope X.env.scope = _; rw [g.sc], g.calm, g.room, takesN⟩
theorem o2_ok (g : Good X cl Φ T N j sc W) {o : Op2} {e a b : Expr} {fa fb : List (Option D) → Sto → Res D} (h : o2E o e = some (a, b)) (ha : PE X a (tE X cl W fa)) (hb : PE X b (tE X cl W fb)) :
    Two X e (tE X cl W fun ρ S => (fa ρ S).bind fun d S => (fb ρ S).bind fun e S => optR ((view S d).bind fun x => (view S e).bind fun y => (prim2 o x y).map .p) S) := by
  have rest : ∀ {o : Op2}, (match vBin e with
      | some (a, op, b) => if decide (opOf op = some o) then some (a, b) else none
      | none => match vCmp e with
        | some (a, op, b) => if decide (cmpOf op = some o) && !behindInMarks op b then some (a, b) else none
        | none => none) = some (a, b) → Two X e (tE X cl W fun ρ S => (fa ρ S).bind fun d S => (fb ρ S).bind fun e S => optR ((view S d).bind fun x => (view S e).bind fun y => (prim2 o x y).map .p) S) := fun {o} h => by
    cases hv : vBin e with
    | some q =>
      obtain ⟨x, op, y⟩ := q
      obtain ⟨p, rfl⟩ := vBin_ok hv
      rw [hv] at h
      obtain ⟨hh, e1⟩ := if_some h
      cases e1
      exact .plain (e_bin (of_decide_eq_true hh) ha hb) (fun _ _ _ _ z => nomatch z)
    | none =>
      rw [hv] at h
      dsimp only at h
      cases hv2 : vCmp e with
      | none => rw [hv2] at h; cases h
      | some q =>
        obtain ⟨x, op, y⟩ := q
        obtain ⟨p, rfl⟩ := vCmp_ok hv2
        rw [hv2] at h
        obtain ⟨hh, e1⟩ := if_some h
        cases e1
        simp only [Bool.and_eq_true, decide_eq_true_eq, Bool.not_eq_true'] at hh
        exact .cmp (c_cmp g.hu hh.1 ha hb) hh.2
  cases o with
  | ix =>
    simp only [o2E] at h
    cases hv : vSub e with
    | none => rw [hv] at h; cases h
    | some q =>
      obtain ⟨x, y⟩ := q
      obtain ⟨p, rfl⟩ := vSub_ok hv
      rw [hv] at h
      obtain ⟨hh, e1⟩ := if_some h
      cases e1
      exact .plain (e_ix g.hu hh ha hb) (fun _ _ _ _ z => nomatch z)
  | add => exact rest h
  | sub => exact rest h
  | mul => exact rest h
  | fdiv => exact rest h
  | mod => exact rest h
  | pow => exact rest h
  | eq => exact rest h
  | ne => exact rest h
  | lt => exact rest h
  | le => exact rest h
  | gt => exact rest h
  | ge => exact rest h
  | mem => exact rest h
  | nmem => exact rest h
theorem cst_ok {c : Const} {p : P} {k : Nat} {pos : Pos} (h : cstB c p = true) : PE X (.Constant c k pos) (tE X cl W fun _ S => .ok (.p p) S) := by
  cases c <;> cases p <;> first | (cases h; done) | skip
  · exact e_cst pe_non fun _ => rfl
  · cases (of_decide_eq_true h); exact e_cst pe_bl fun _ => rfl
  · cases (of_decide_eq_true h); exact e_cst pe_int fun _ => rfl
  · cases (of_decide_eq_true h); exact e_cst pe_str fun _ => rfl
theorem nameB_ok (hN : X.N = N) (hs : X.env.scope = sc) {fnB : Str → Bool} (hf : ∀ x, fnB x = true → X.fn x = true) {e : Expr} {i : Nat} (h : nameB N fnB sc e i = true) : NameAt X e i := by
  unfold nameB at h
  cases hv : vName e with
  | none => rw [hv] at h; cases h
  | some x =>
    obtain ⟨p, rfl⟩ := vName_ok hv
    rw [hv] at h
    simp only [Bool.and_eq_true, decide_eq_true_eq, Bool.or_eq_true] at h
    obtain ⟨⟨h1, h2⟩, h3⟩ := h
    refine ⟨x, p, rfl, by rw [hN]; exact h1, ?_, ?_⟩
    · unfold L2.Loc
      rw [hs]
      unfold locB at h2
      split at h2 <;> first | exact .inl (by assumption) | exact .inr (by assumption) | cases h2
    · refine h3.elim (fun z => .inl (hf x z)) fun z => .inr ?_
      rw [hs]
      unfold isLoc at z
      split at z
      · assumption
      · cases z
theorem namesB_ok (hN : X.N = N) (hs : X.env.scope = sc) {fnB : Str → Bool} (hf : ∀ x, fnB x = true → X.fn x = true) : ∀ {es : List Expr} {is : List Nat}, namesB N fnB sc es is = true → Paired (NameAt X) es is
  | [], [], _ => .nil
  | e :: es, i :: is, h => by
    have h' : (nameB N fnB sc e i && namesB N fnB sc es is) = true := h
    rw [Bool.and_eq_true] at h'
    exact .cons (nameB_ok hN hs hf h'.1) (namesB_ok hN hs hf h'.2)
  | [], _ :: _, h => by cases h
  | _ :: _, [], h => by cases h
theorem tgB_ok (hN : X.N = N) (nd : N.Nodup) (hc : X.calm = true) (hs : X.env.scope = sc) {fnB : Str → Bool} (hf : ∀ x, fnB x = true → X.fn x = true) {tg : Tg} {e : Expr} (h : tgB N fnB sc tg e = true) : PG X e (gT X.K tg) := by
  cases tg with
  | nm i =>
    obtain ⟨x, p, rfl, h1, h2, h3⟩ := nameB_ok hN hs hf h
    exact pg_nm (by rw [hN]; exact nd) h1 h2 h3
  | tp is =>
    simp only [tgB] at h
    cases hv : vTup e with
    | none => rw [hv] at h; cases h
    | some es =>
      obtain ⟨k, p, rfl⟩ := vTup_ok hv
      rw [hv] at h
      exact pg_names hc (by rw [hN]; exact nd) (namesB_ok hN hs hf h)
theorem set_no {iter : Expr} {env : Env} (h : noSet iter = true) : ∀ x, foldedSetIterable iter env x = pure x := fun x => by
  cases iter <;> first | rfl | cases h
theorem own_map (own : List Nat) : (ownOf N own).map (·.2) = own := by
  unfold ownOf
  rw [List.map_map]
  induction own with
  | nil => rfl
  | cons i is ih => rw [List.map_cons, ih]; rfl
/-- a block's facts -/
theorem blk_ok (g : Good X cl Φ T N j sc W) {scope : Scope} {own : List Nat} {tg : Tg} {tge iter : Expr} (h : blkB N sc scope own tg tge iter = true) :
    BlkOk X.N X.env.scope scope (ownOf N own) ∧ (∀ (s : Shared) (H : Hp) (C : Addr) (cll : List (Str × Addr)) (fp : List Addr), PG (X.blk s H scope (compEnvC scope cll C X.env) fp) tge (gT X.K tg)) ∧ (∀ i ∈ tg.names, i ∈ (ownOf N own).map (·.2)) ∧ ∀ x, foldedSetIterable iter X.env x = pure x := by
  unfold blkB at h
  simp only [Bool.and_eq_true] at h
  obtain ⟨⟨⟨h1, h2⟩, h3⟩, h4⟩ := h
  refine ⟨by rw [g.hN, g.sc]; exact blkOk_by h1, fun s H C cll fp => ?_, fun i hi => ?_, set_no h4⟩
  · exact tgB_ok (X := X.blk s H scope (compEnvC scope cll C X.env) fp) g.hN g.nd g.calm (g.blk s H scope C cll fp).sc (fun x h => h) h2
  · rw [own_map]
    rw [List.all_eq_true] at h3
    simpa using h3 i hi
def TwoT (X : Cx) (e : Expr) (t : TT) : Prop := PT X e t ∧ ((vBool e).isSome = true → PW X e t)
end
/-- a line of the table -/
theorem any_mem {α : Type} {l : List α} {p : α → Bool} (h : l.any p = true) : ∃ t ∈ l, p t = true := List.any_eq_true.mp h
theorem _root_.L2.PK.imp {X : Cx} {kws : List Keyword} {t t' : TA} (p : PK X kws t) (h : ∀ σ H Q, t' σ H Q → t σ H Q) : PK X kws t' := ⟨fun pos pins s σ H Q I q => p.run pos pins s σ H Q I (h σ H Q q)⟩
mutual
theorem ckE_ok : ∀ (ie : IE) {X : Cx} {sc : Scope} {W : WX} {e : Expr}, Good X cl Φ T N j sc W → ckE T N ie sc e = true → Two X e (tE X cl W (ev Φ ie))
  | .var i, X, sc, W, e, g, h => by
    simp only [ckE] at h
    cases hv : vName e with
    | none => rw [hv] at h; cases h
    | some x =>
      obtain ⟨p, rfl⟩ := vName_ok hv
      rw [hv] at h
      simp only [Bool.and_eq_true, decide_eq_true_eq, okN, Bool.not_eq_true'] at h
      exact .plain (e_var (by rw [g.hN]; exact h.1.1) (vis_of g.sc h.1.2) h.2.1 h.2.2) (fun _ _ _ _ z => nomatch z)
  | .cst p, X, sc, W, e, g, h => by
    simp only [ckE] at h
    cases hv : vCst e with
    | some c =>
      obtain ⟨k, q, rfl⟩ := vCst_ok hv
      rw [hv] at h
      exact .plain (cst_ok h) (fun _ _ _ _ z => nomatch z)
    | none =>
      rw [hv] at h
      dsimp only at h
      cases hv2 : vName e with
      | none => rw [hv2] at h; cases h
      | some x =>
        obtain ⟨q, rfl⟩ := vName_ok hv2
        rw [hv2] at h
        simp only [Bool.and_eq_true] at h
        obtain ⟨t, ht, h2⟩ := any_mem h.2
        simp only [Bool.and_eq_true, decide_eq_true_eq] at h2
        obtain ⟨rfl, h3⟩ := h2
        have e3 := P.eqb_ok _ _ h3
        obtain ⟨u, v, h4, h5, h6, h7⟩ := g.wd.gl t ht
        rw [e3] at h6
        exact .plain (e_cst (pe_glob (gl_of g.sc h.1) h4 h5 h7) h6) (fun _ _ _ _ z => nomatch z)
  | .o1 o a, X, sc, W, e, g, h => by
    simp only [ckE] at h
    cases hv : o1E T sc o e with
    | none => rw [hv] at h; cases h
    | some x =>
      rw [hv] at h
      exact o1_ok g.sc g.calm g.hu g.wd hv (ckE_ok a g h).1
  | .o2 o a b, X, sc, W, e, g, h => by
    simp only [ckE] at h
    cases hv : o2E o e with
    | none => rw [hv] at h; cases h
    | some q =>
      obtain ⟨x, y⟩ := q
      rw [hv] at h
      simp only [Bool.and_eq_true] at h
      exact o2_ok g hv (ckE_ok a g h.1).1 (ckE_ok b g h.2).1
  | .get a b c, X, sc, W, e, g, h => by
    simp only [ckE] at h
    cases hv : vMeth e with
    | none => rw [hv] at h; cases h
    | some q =>
      obtain ⟨o, m, es⟩ := q
      obtain ⟨p, q, rfl, hl⟩ := vMeth_ok hv
      rw [hv] at h
      rcases es with _ | ⟨x, _ | ⟨y, _ | ⟨z, es⟩⟩⟩ <;> first | (cases h; done) | skip
      simp only [Bool.and_eq_true, decide_eq_true_eq] at h
      obtain ⟨⟨⟨⟨⟨⟨h1, h2⟩, h3⟩, h4⟩, h5⟩, h6⟩, h7⟩ := h
      subst h1
      exact .plain (e_get g.hu h2 h3 h4 hl (ckE_ok a g h5).1 (ckE_ok b g h6).1 (ckE_ok c g h7).1) (fun _ _ _ _ z => nomatch z)
  | .slice a bl bh lo hi, X, sc, W, e, g, h => by
    simp only [ckE] at h
    cases hv : vSub e with
    | none => rw [hv] at h; cases h
    | some q =>
      obtain ⟨o, s⟩ := q
      obtain ⟨p, rfl⟩ := vSub_ok hv
      rw [hv] at h
      dsimp only at h
      cases hv2 : vSlice s with
      | none => rw [hv2] at h; cases h
      | some q =>
        obtain ⟨l, u, w⟩ := q
        obtain ⟨p2, rfl⟩ := vSlice_ok hv2
        rw [hv2] at h
        cases w with
        | some w => cases h
        | none =>
          simp only [Bool.and_eq_true, decide_eq_true_eq] at h
          obtain ⟨⟨⟨⟨h1, h2⟩, h3⟩, h4⟩, h5⟩ := h
          have nonI : ∀ {ie : IE}, isNonI ie = true → ∀ ρ S, ev Φ ie ρ S = .ok (.p .non) S := fun {ie} z ρ S => by
            unfold isNonI at z
            split at z
            · rfl
            · cases z
          have pl : PO X l (tO X cl W fun ρ S => (ev Φ lo ρ S).bind fun e S => optR (partOf bl e) S) := part_ok h1 (fun x hx => by
            subst hx
            exact (ckE_ok lo g h4).1) (fun hx => by
            subst hx
            exact nonI h4)
          have ph : PO X u (tO X cl W fun ρ S => (ev Φ hi ρ S).bind fun e S => optR (partOf bh e) S) := part_ok h2 (fun x hx => by
            subst hx
            exact (ckE_ok hi g h5).1) (fun hx => by
            subst hx
            exact nonI h5)
          exact .plain (e_slice (ckE_ok a g h3).1 pl ph) (fun _ _ _ _ z => nomatch z)
  | .and a b, X, sc, W, e, g, h => by
    simp only [ckE] at h
    cases hv : vBool e with
    | none => rw [hv] at h; cases h
    | some q =>
      obtain ⟨op, es, p⟩ := q
      have := vBool_ok hv
      subst this
      rw [hv] at h
      cases op with
      | Or => cases h
      | And =>
        rcases es with _ | ⟨x, _ | ⟨y, r⟩⟩ <;> first | (cases h; done) | skip
        simp only [Bool.and_eq_true] at h
        have hb : PE X (.BoolOp .And (y :: r) p) (tE X cl W (ev Φ b)) := by
          cases r with
          | nil => exact pe_one (ckE_ok b g h.2).1
          | cons z r => exact (ckE_ok b g h.2).1
        exact ⟨e_and (ckE_ok a g h.1).1 hb, fun z => z.elim (fun z => by cases z) fun ⟨_, _, _, _, z⟩ => nomatch z⟩
  | .or a b, X, sc, W, e, g, h => by
    simp only [ckE] at h
    cases hv : vBool e with
    | none => rw [hv] at h; cases h
    | some q =>
      obtain ⟨op, es, p⟩ := q
      have := vBool_ok hv
      subst this
      rw [hv] at h
      cases op with
      | And => rcases es with _ | ⟨x, _ | ⟨y, r⟩⟩ <;> cases h
      | Or =>
        rcases es with _ | ⟨x, _ | ⟨y, r⟩⟩ <;> first | (cases h; done) | skip
        simp only [Bool.and_eq_true] at h
        have hb : PE X (.BoolOp .Or (y :: r) p) (tE X cl W (ev Φ b)) := by
          cases r with
          | nil => exact pe_one (ckE_ok b g h.2).1
          | cons z r => exact (ckE_ok b g h.2).1
        exact ⟨e_or (ckE_ok a g h.1).1 hb, fun z => z.elim (fun z => by cases z) fun ⟨_, _, _, _, z⟩ => nomatch z⟩
  | .ifx c a b, X, sc, W, e, g, h => by
    simp only [ckE] at h
    cases hv : vIf e with
    | none => rw [hv] at h; cases h
    | some q =>
      obtain ⟨t, x, y⟩ := q
      obtain ⟨p, rfl⟩ := vIf_ok hv
      rw [hv] at h
      simp only [Bool.and_eq_true] at h
      exact ⟨e_ifx (ckT_ok c g h.1.1).1 (ckE_ok a g h.1.2).1 (ckE_ok b g h.2).1, fun z => z.elim (fun z => by cases z) fun ⟨_, _, _, _, z⟩ => nomatch z⟩
  | .chain o p a b c, X, sc, W, e, g, h => by
    simp only [ckE] at h
    cases hv : vCmp2 e with
    | none => rw [hv] at h; cases h
    | some q =>
      obtain ⟨x, op, op', y, z⟩ := q
      obtain ⟨q, rfl⟩ := vCmp2_ok hv
      rw [hv] at h
      simp only [Bool.and_eq_true, decide_eq_true_eq, Bool.not_eq_true'] at h
      obtain ⟨⟨⟨⟨⟨h1, h2⟩, h3⟩, h4⟩, h5⟩, h6⟩ := h
      exact ⟨e_chain g.hu h1 h2 h3 (ckE_ok a g h4).1 (ckE_ok b g h5).1 (ckE_ok c g h6).1, fun z => z.elim (fun z => by cases z) fun ⟨_, _, _, _, z⟩ => nomatch z⟩
  | .tup l, X, sc, W, e, g, h => by
    simp only [ckE] at h
    cases hv : vTup e with
    | none => rw [hv] at h; cases h
    | some es =>
      obtain ⟨k, p, rfl⟩ := vTup_ok hv
      rw [hv] at h
      simp only [Bool.and_eq_true] at h
      exact .plain (e_tup (ckL_ok l g h.1 h.2)) (fun _ _ _ _ z => nomatch z)
  | .lst bx l, X, sc, W, e, g, h => by
    simp only [ckE] at h
    cases hv : vLst e with
    | none => rw [hv] at h; cases h
    | some es =>
      obtain ⟨p, rfl⟩ := vLst_ok hv
      rw [hv] at h
      simp only [Bool.and_eq_true] at h
      exact .plain (e_lst (ckL_ok l g h.1 h.2)) (fun _ _ _ _ z => nomatch z)
  | .dnew, X, sc, W, e, g, h => by
    simp only [ckE] at h
    obtain ⟨p, rfl⟩ := vDict_ok h
    exact .plain e_dnew (fun _ _ _ _ z => nomatch z)
  | .call fz i dfl l, X, sc, W, e, g, h => by
    simp only [ckE] at h
    cases hv : vCall e with
    | none => rw [hv] at h; cases h
    | some q =>
      obtain ⟨x, es⟩ := q
      obtain ⟨p, q, rfl⟩ := vCall_ok hv
      rw [hv] at h
      simp only [Bool.and_eq_true] at h
      obtain ⟨⟨⟨h1, h2⟩, h3⟩, h4⟩ := h
      obtain ⟨t, ht, h5⟩ := any_mem h3
      simp only [Bool.and_eq_true, decide_eq_true_eq] at h5
      obtain ⟨⟨rfl, rfl⟩, h6⟩ := h5
      have e6 := P.eqbs_ok _ _ h6
      subst e6
      obtain ⟨f, fd, ps, ds, dvs, F, hm, hk, hb, hd, hdr, hdb⟩ := g.wd.fn t ht
      have ha := ckL_ok l g h1 h4
      cases es with
      | nil =>
        cases l with
        | nil => exact .plain (e_call0 F (g.room.mono (Nat.le_succ _)) (gl_of g.sc h2) hm hk hb hd hdr g.tk hdb) (fun _ _ _ _ z => nomatch z)
        | cons a l => simp only [ckL] at h4; cases h4
      | cons x es => exact .plain (e_call F (g.room.mono (Nat.le_succ _)) (gl_of g.sc h2) hm hk hb hd hdr g.tk hdb h1 ha) (fun _ _ _ _ z => nomatch z)
  | .meth fz c m i .nil, X, sc, W, e, g, h => by
    simp only [ckE] at h
    cases h
  | .meth fz c m i (.cons a l), X, sc, W, e, g, h => by
    simp only [ckE] at h
    cases hv : vMeth e with
    | none => rw [hv] at h; cases h
    | some q =>
      obtain ⟨o, m', es⟩ := q
      obtain ⟨p, q, rfl, hl⟩ := vMeth_ok hv
      rw [hv] at h
      simp only [Bool.and_eq_true, decide_eq_true_eq] at h
      obtain ⟨⟨⟨⟨⟨⟨h1, h2⟩, h3⟩, h4⟩, h5⟩, h6⟩, h7⟩ := h
      subst h1
      obtain ⟨t, ht, h8⟩ := any_mem h2
      simp only [Bool.and_eq_true, decide_eq_true_eq] at h8
      obtain ⟨⟨rfl, h9⟩, rfl⟩ := h8
      obtain ⟨f, fd, ps, hc, hmt, F, hb⟩ := g.wd.mt t ht
      rw [h9] at hmt
      have ha := ckL_ok l g h4 h7
      cases es with
      | nil =>
        cases l with
        | nil => exact .plain (e_meth0 hc hmt F (g.room.mono (Nat.le_succ _)) hb g.tk h3 hl (ckE_ok a g h6).1) (fun _ _ _ _ z => nomatch z)
        | cons a l => simp only [ckL] at h7; cases h7
      | cons x es => exact .plain (e_meth hc hmt F (g.room.mono (Nat.le_succ _)) hb g.tk h3 h4 h5 hl (ckE_ok a g h6).1 ha) (fun _ _ _ _ z => nomatch z)
  | .own1 c i a, X, sc, W, e, g, h => by
    simp only [ckE] at h
    cases hv : vCall e with
    | none => rw [hv] at h; cases h
    | some q =>
      obtain ⟨x, es⟩ := q
      obtain ⟨p, q, rfl⟩ := vCall_ok hv
      rw [hv] at h
      rcases es with _ | ⟨y, _ | ⟨z, es⟩⟩ <;> first | (cases h; done) | skip
      simp only [Bool.and_eq_true] at h
      obtain ⟨⟨⟨h1, h2⟩, h3⟩, h4⟩ := h
      obtain ⟨rfl, hg, hbl⟩ := blt_of h1
      obtain ⟨t, ht, h5⟩ := any_mem h2
      simp only [Bool.and_eq_true, decide_eq_true_eq] at h5
      obtain ⟨rfl, rfl⟩ := h5
      obtain ⟨f, fd, ps, hf, hfn, F, hb⟩ := g.wd.len t ht
      exact .plain (e_own1 hf hfn F g.room hb g.tk (gl_of g.sc hg) (g.wd.bl _ hbl) (by first | rfl | decide +kernel) (by decide +kernel) (by decide +kernel) h3 (ckE_ok a g h4).1) (fun _ _ _ _ z => nomatch z)
  | .own2 c i a b, X, sc, W, e, g, h => by
    simp only [ckE] at h
    cases hv : vBin e with
    | some q =>
      obtain ⟨x, op, y⟩ := q
      obtain ⟨p, rfl⟩ := vBin_ok hv
      rw [hv] at h
      simp only [Bool.and_eq_true] at h
      obtain ⟨⟨h1, h2⟩, h3⟩ := h
      obtain ⟨t, ht, h5⟩ := any_mem h1
      simp only [Bool.and_eq_true, decide_eq_true_eq] at h5
      obtain ⟨⟨rfl, h6⟩, rfl⟩ := h5
      obtain ⟨f, fd, ps, hsf, hf, hfn, F, hb⟩ := g.wd.op t ht
      rw [h6] at hf
      exact .plain (e_own2 hsf hf hfn F (g.room.mono (Nat.le_succ _)) hb g.tk (ckE_ok a g h2).1 (ckE_ok b g h3).1) (fun _ _ _ _ z => nomatch z)
    | none =>
      rw [hv] at h
      dsimp only at h
      cases hv2 : vCmp e with
      | none => rw [hv2] at h; cases h
      | some q =>
        obtain ⟨x, op, y⟩ := q
        obtain ⟨p, rfl⟩ := vCmp_ok hv2
        rw [hv2] at h
        cases op <;> first | (cases h; done) | skip
        simp only [Bool.and_eq_true] at h
        obtain ⟨⟨h1, h2⟩, h3⟩ := h
        obtain ⟨t, ht, h5⟩ := any_mem h1
        simp only [Bool.and_eq_true, decide_eq_true_eq] at h5
        obtain ⟨rfl, rfl⟩ := h5
        obtain ⟨f, fd, ps, hf, hfn, F, hb⟩ := g.wd.eq t ht
        exact .cmp (c_eqI g.hu hf hfn F (g.room.mono (Nat.le_succ _)) hb g.tk (ckE_ok a g h2).1 (ckE_ok b g h3).1) (nomark _)
  | .ne c i a b, X, sc, W, e, g, h => by
    simp only [ckE] at h
    cases hv2 : vCmp e with
    | none => rw [hv2] at h; cases h
    | some q =>
      obtain ⟨x, op, y⟩ := q
      obtain ⟨p, rfl⟩ := vCmp_ok hv2
      rw [hv2] at h
      cases op <;> first | (cases h; done) | skip
      simp only [Bool.and_eq_true] at h
      obtain ⟨⟨h1, h2⟩, h3⟩ := h
      obtain ⟨t, ht, h5⟩ := any_mem h1
      simp only [Bool.and_eq_true, decide_eq_true_eq] at h5
      obtain ⟨rfl, rfl⟩ := h5
      obtain ⟨f, fd, ps, hn, ho, hf, hfn, F, hb⟩ := g.wd.ne t ht
      exact .cmp (c_ne g.hu hn ho hf hfn F g.room hb g.tk (ckE_ok a g h2).1 (ckE_ok b g h3).1) (nomark _)
  | .isin c i a b, X, sc, W, e, g, h => by
    simp only [ckE] at h
    cases hv2 : vCmp e with
    | none => rw [hv2] at h; cases h
    | some q =>
      obtain ⟨x, op, y⟩ := q
      obtain ⟨p, rfl⟩ := vCmp_ok hv2
      rw [hv2] at h
      cases op <;> first | (cases h; done) | skip
      simp only [Bool.and_eq_true, Bool.not_eq_true'] at h
      obtain ⟨⟨⟨h1, h0⟩, h2⟩, h3⟩ := h
      obtain ⟨t, ht, h5⟩ := any_mem h1
      simp only [Bool.and_eq_true, decide_eq_true_eq] at h5
      obtain ⟨rfl, rfl⟩ := h5
      obtain ⟨f, fd, ps, hf, hfn, F, hb⟩ := g.wd.isin t ht
      exact .cmp (c_isin hf hfn F (g.room.mono (Nat.le_succ _)) hb g.tk (ckE_ok a g h2).1 (ckE_ok b g h3).1) h0
  | .mkx kw c f l, X, sc, W, e, g, h => by
    simp only [ckE] at h
    cases kw with
    | true =>
      rw [if_pos rfl] at h
      cases hv : vCallK e with
      | none => rw [hv] at h; cases h
      | some q =>
        obtain ⟨x, nm, y⟩ := q
        obtain ⟨p, q, r, rfl⟩ := vCallK_ok hv
        rw [hv] at h
        simp only [Bool.and_eq_true, decide_eq_true_eq] at h
        obtain ⟨⟨⟨h2, h3⟩, rfl⟩, h4⟩ := h
        obtain ⟨t, ht, h5⟩ := any_mem h3
        simp only [Bool.and_eq_true, decide_eq_true_eq] at h5
        obtain ⟨⟨rfl, rfl⟩, h6⟩ := h5
        obtain ⟨hm, hk, hdb, hx⟩ := g.wd.xm t ht
        rw [h6] at hx
        obtain ⟨fI, hx⟩ := hx
        cases l with
        | nil => simp only [ckL] at h4; cases h4
        | cons a l =>
          simp only [ckL] at h4
          rw [Bool.and_eq_true] at h4
          cases l with
          | cons _ _ => simp only [ckL] at h4; cases h4.2
          | nil =>
            have hp : PK X [⟨some nm, y, r⟩] (tA X cl W (evL Φ (.cons a .nil))) := (pk_cons (ckE_ok a g h4.1).1 pk_nil).imp fun σ H Q ⟨ρ, S, μ, F, B, rr, h⟩ => stepE B rr h fun x H1 d S1 μ1 B1 f1 r1 rd h1 => h1 _ μ1 H1 B1 Fra.refl ⟨x, [], rfl, rd, rfl⟩
            exact .plain (e_mkxk hx (g.room.mono (by omega)) (gl_of g.sc h2) hm hdb hp rfl rfl rfl) (fun _ _ _ _ z => nomatch z)
    | false =>
      rw [if_neg Bool.false_ne_true] at h
      cases hv : vCall e with
      | none => rw [hv] at h; cases h
      | some q =>
        obtain ⟨x, es⟩ := q
        obtain ⟨p, q, rfl⟩ := vCall_ok hv
        rw [hv] at h
        rcases es with _ | ⟨y, es⟩ <;> first | (cases h; done) | skip
        simp only [Bool.and_eq_true] at h
        obtain ⟨⟨⟨⟨h0, h1⟩, h2⟩, h3⟩, h4⟩ := h
        obtain ⟨t, ht, h5⟩ := any_mem h3
        simp only [Bool.and_eq_true, decide_eq_true_eq] at h5
        obtain ⟨⟨rfl, rfl⟩, rfl⟩ := h5
        obtain ⟨hm, hk, hdb, hx⟩ := g.wd.xm t ht
        have hs : (y :: es).all noStar = true := by rw [List.all_cons, h0, h1]; rfl
        have ha := ckL_ok l g hs h4
        have hpl := star_none (env := X.env) (pos := q) h1
        obtain ⟨t1, t2, t3⟩ := t
        cases t3 with
        | some f =>
          obtain ⟨fI, hx⟩ := hx
          exact .plain (e_mkx hx (g.room.mono (by omega)) (gl_of g.sc h2) hm hdb ha (star_cons h0) hpl) (fun _ _ _ _ z => nomatch z)
        | none => exact .plain (e_mkx0 hx hk (gl_of g.sc h2) hm hdb ha (star_cons h0) hpl) (fun _ _ _ _ z => nomatch z)
  | .mk fz c i dfl l, X, sc, W, e, g, h => by
    simp only [ckE] at h
    cases hv : vCall e with
    | none => rw [hv] at h; cases h
    | some q =>
      obtain ⟨x, es⟩ := q
      obtain ⟨p, q, rfl⟩ := vCall_ok hv
      rw [hv] at h
      simp only [Bool.and_eq_true] at h
      obtain ⟨⟨⟨h1, h2⟩, h3⟩, h4⟩ := h
      obtain ⟨t, ht, h5⟩ := any_mem h3
      simp only [Bool.and_eq_true, decide_eq_true_eq] at h5
      obtain ⟨⟨⟨rfl, rfl⟩, rfl⟩, h6⟩ := h5
      have e6 := P.eqbs_ok _ _ h6
      subst e6
      obtain ⟨f, fd, ps, ds, dvs, M, F, hm, hb, hd, hdr, hdb⟩ := g.wd.mkr t ht
      have ha := ckL_ok l g h1 h4
      cases es with
      | nil =>
        cases l with
        | nil => exact .plain (e_mk0 M F g.room (gl_of g.sc h2) hm hb hd hdr g.tk hdb) (fun _ _ _ _ z => nomatch z)
        | cons a l => simp only [ckL] at h4; cases h4
      | cons x es => exact .plain (e_mk M F g.room (gl_of g.sc h2) hm hb hd hdr g.tk hdb h1 ha) (fun _ _ _ _ z => nomatch z)
  | .fld c f a, X, sc, W, e, g, h => by
    simp only [ckE] at h
    cases hv : vAttr e with
    | none => rw [hv] at h; cases h
    | some q =>
      obtain ⟨o, m⟩ := q
      obtain ⟨p, rfl⟩ := vAttr_ok hv
      rw [hv] at h
      simp only [Bool.and_eq_true, decide_eq_true_eq] at h
      obtain ⟨⟨⟨rfl, h2⟩, h3⟩, h4⟩ := h
      obtain ⟨t, ht, h5⟩ := any_mem h2
      simp only [Bool.and_eq_true, decide_eq_true_eq] at h5
      obtain ⟨rfl, h6⟩ := h5
      obtain ⟨hc, hn⟩ := g.wd.fl t ht
      rw [h6] at hn
      exact .plain (e_fld hc hn h3 (ckE_ok a g h4).1) (fun _ _ _ _ z => nomatch z)
  | .mut m o a, X, sc, W, e, g, h => by
    simp only [ckE] at h
    cases hv : vMeth e with
    | none => rw [hv] at h; cases h
    | some q =>
      obtain ⟨x, n, es⟩ := q
      obtain ⟨p, q, rfl, hl⟩ := vMeth_ok hv
      rw [hv] at h
      rcases es with _ | ⟨y, _ | ⟨z, es⟩⟩ <;> first | (cases h; done) | skip
      simp only [Bool.and_eq_true] at h
      obtain ⟨⟨⟨⟨h1, h2⟩, h3⟩, h4⟩, h5⟩ := h
      cases m with
      | append =>
        have := of_decide_eq_true h1
        subst this
        exact .plain (e_append h2 h3 hl (ckE_ok o g h4).1 (ckE_ok a g h5).1) (fun _ _ _ _ z => nomatch z)
      | extend =>
        have := of_decide_eq_true h1
        subst this
        exact .plain (e_extend h2 h3 hl (ckE_ok o g h4).1 (ckE_ok a g h5).1) (fun _ _ _ _ z => nomatch z)
      | remove => cases h1
  | .lc bx own elt tg src cond, X, sc, W, e, g, h => by
    simp only [ckE] at h
    cases hv : vLc e with
    | none => rw [hv] at h; cases h
    | some q =>
      obtain ⟨x, tge, iter, ifs, scope⟩ := q
      obtain ⟨p, rfl⟩ := vLc_ok hv
      rw [hv] at h
      simp only [Bool.and_eq_true] at h
      obtain ⟨⟨⟨h1, h2⟩, h3⟩, h4⟩ := h
      obtain ⟨ok, hg, hvn, hset⟩ := blk_ok g h1
      have hn : X.N.Nodup := by rw [g.hN]; exact g.nd
      have ht : ∀ (s : Shared) (H : Hp) (C : Addr) (cll : List (Str × Addr)) (fp : List Addr), PTs (X.blk s H scope (compEnvC scope cll C X.env) fp) ifs (tT X cl WN (evT Φ cond)) := fun s H C cll fp => by
        rcases ifs with _ | ⟨c, _ | ⟨c2, ifs⟩⟩
        · cases cond <;> first | exact ts_nil | cases h3
        · exact ts_one (ckT_ok cond (g.blk s H scope C cll fp) h3).1
        · cases h3
      have hE : ∀ (s : Shared) (H : Hp) (C : Addr) (cll : List (Str × Addr)) (fp : List Addr), PE (X.blk s H scope (compEnvC scope cll C X.env) fp) x (tE X cl WN (ev Φ elt)) := fun s H C cll fp => (ckE_ok elt (g.blk s H scope C cll fp) h4).1
      have key := pe_lc (pos := p) g.calm hn (ckS_ok src g h2) ok hg ht hE hset
      refine .plain (key.imp fun σ H Q hw => lc_imp (cl := cl) (bx := bx) hvn ?_) (fun _ _ _ _ z => nomatch z)
      rw [own_map]
      exact hw
  | .dc bx own k v tg src cond, X, sc, W, e, g, h => by
    simp only [ckE] at h
    cases hv : vDc e with
    | none => rw [hv] at h; cases h
    | some q =>
      obtain ⟨x, y, tge, iter, ifs, scope⟩ := q
      obtain ⟨p, rfl⟩ := vDc_ok hv
      rw [hv] at h
      simp only [Bool.and_eq_true] at h
      obtain ⟨⟨⟨⟨h1, h2⟩, h3⟩, h4⟩, h5⟩ := h
      obtain ⟨ok, hg, hvn, hset⟩ := blk_ok g h1
      have hn : X.N.Nodup := by rw [g.hN]; exact g.nd
      have ht : ∀ (s : Shared) (H : Hp) (C : Addr) (cll : List (Str × Addr)) (fp : List Addr), PTs (X.blk s H scope (compEnvC scope cll C X.env) fp) ifs (tT X cl WN (evT Φ cond)) := fun s H C cll fp => by
        rcases ifs with _ | ⟨c, _ | ⟨c2, ifs⟩⟩
        · cases cond <;> first | exact ts_nil | cases h3
        · exact ts_one (ckT_ok cond (g.blk s H scope C cll fp) h3).1
        · cases h3
      have hK : ∀ (s : Shared) (H : Hp) (C : Addr) (cll : List (Str × Addr)) (fp : List Addr), PE (X.blk s H scope (compEnvC scope cll C X.env) fp) x (tE X cl WN (ev Φ k)) := fun s H C cll fp => (ckE_ok k (g.blk s H scope C cll fp) h4).1
      have hE : ∀ (s : Shared) (H : Hp) (C : Addr) (cll : List (Str × Addr)) (fp : List Addr), PE (X.blk s H scope (compEnvC scope cll C X.env) fp) y (tE X cl WN (ev Φ v)) := fun s H C cll fp => (ckE_ok v (g.blk s H scope C cll fp) h5).1
      have key := pe_dc (pos := p) g.calm hn (ckS_ok src g h2) ok hg ht hK hE hset
      refine .plain (key.imp fun σ H Q hw => dc_imp (cl := cl) (bx := bx) hvn ?_) (fun _ _ _ _ z => nomatch z)
      rw [own_map]
      exact hw
theorem ckT_ok : ∀ (it : IT) {X : Cx} {sc : Scope} {W : WX} {e : Expr}, Good X cl Φ T N j sc W → ckT T N it sc e = true → TwoT X e (tT X cl W (evT Φ it))
  | .tt, X, sc, W, e, g, h => by
    simp only [ckT] at h
    cases h
  | .tr a, X, sc, W, e, g, h => by
    simp only [ckT, Bool.and_eq_true, Bool.or_eq_true] at h
    refine ⟨t_tru ((ckE_ok a g h.2).2 (h.1.imp id fun z => ?_)), fun z => ?_⟩
    · obtain ⟨q, hq⟩ := Option.isSome_iff_exists.mp z
      obtain ⟨x, op, y⟩ := q
      obtain ⟨p, rfl⟩ := vCmp_ok hq
      exact ⟨_, _, _, _, rfl⟩
    · obtain ⟨q, hq⟩ := Option.isSome_iff_exists.mp z
      obtain ⟨op, es, p⟩ := q
      have := vBool_ok hq
      subst this
      exact absurd h.1 (by simp [plainTest, vCmp])
  | .not t, X, sc, W, e, g, h => by
    simp only [ckT] at h
    cases hv : vUn e with
    | none => rw [hv] at h; cases h
    | some q =>
      obtain ⟨op, x⟩ := q
      obtain ⟨p, rfl⟩ := vUn_ok hv
      rw [hv] at h
      cases op <;> first | (cases h; done) | skip
      exact ⟨t_not (ckT_ok t g h).1, fun z => by cases z⟩
  | .and t u, X, sc, W, e, g, h => by
    simp only [ckT] at h
    cases hv : vBool e with
    | none => rw [hv] at h; cases h
    | some q =>
      obtain ⟨op, es, p⟩ := q
      have := vBool_ok hv
      subst this
      rw [hv] at h
      cases op with
      | Or => cases h
      | And =>
        rcases es with _ | ⟨x, _ | ⟨y, r⟩⟩ <;> first | (cases h; done) | skip
        simp only [Bool.and_eq_true] at h
        have hb : PW X (.BoolOp .And (y :: r) p) (tT X cl W (evT Φ u)) := by
          cases r with
          | nil => exact pw_and1 (ckT_ok u g h.2).1
          | cons z r => exact (ckT_ok u g h.2).2 rfl
        have k := t_and (ckT_ok t g h.1).1 hb
        exact ⟨k.pt, fun _ => k⟩
  | .or t u, X, sc, W, e, g, h => by
    simp only [ckT] at h
    cases hv : vBool e with
    | none => rw [hv] at h; cases h
    | some q =>
      obtain ⟨op, es, p⟩ := q
      have := vBool_ok hv
      subst this
      rw [hv] at h
      cases op with
      | And => rcases es with _ | ⟨x, _ | ⟨y, r⟩⟩ <;> cases h
      | Or =>
        rcases es with _ | ⟨x, _ | ⟨y, r⟩⟩ <;> first | (cases h; done) | skip
        simp only [Bool.and_eq_true] at h
        have hb : PW X (.BoolOp .Or (y :: r) p) (tT X cl W (evT Φ u)) := by
          cases r with
          | nil => exact pw_or1 (ckT_ok u g h.2).1
          | cons z r => exact (ckT_ok u g h.2).2 rfl
        have k := t_or (ckT_ok t g h.1).1 hb
        exact ⟨k.pt, fun _ => k⟩
theorem ckL_ok : ∀ (l : IL) {X : Cx} {sc : Scope} {W : WX} {es : List Expr}, Good X cl Φ T N j sc W → es.all noStar = true → ckL T N l sc es = true → PA X es (tA X cl W (evL Φ l))
  | .nil, X, sc, W, es, g, hs, h => by
    simp only [ckL] at h
    cases es with
    | nil => exact a_nil
    | cons _ _ => cases h
  | .cons a l, X, sc, W, es, g, hs, h => by
    simp only [ckL] at h
    cases es with
    | nil => cases h
    | cons e es =>
      simp only [Bool.and_eq_true] at h
      rw [List.all_cons, Bool.and_eq_true] at hs
      exact a_cons hs.1 (ckE_ok a g h.1).1 (ckL_ok l g hs.2 h.2)
theorem ckS_ok : ∀ (s : Src) {X : Cx} {sc : Scope} {W : WX} {e tg : Expr}, Good X cl Φ T N j sc W → ckS T N s sc e = true → PI X tg e (tI X cl W (evS Φ s))
  | .seq a, X, sc, W, e, tg, g, h => by
    simp only [ckS] at h
    exact s_seq (ckE_ok a g h).1
  | .rng1 a, X, sc, W, e, tg, g, h => by
    simp only [ckS] at h
    cases hv : vCall e with
    | none => rw [hv] at h; cases h
    | some q =>
      obtain ⟨x, es⟩ := q
      obtain ⟨p, q, rfl⟩ := vCall_ok hv
      rw [hv] at h
      rcases es with _ | ⟨y, _ | ⟨z, es⟩⟩ <;> first | (cases h; done) | skip
      simp only [Bool.and_eq_true] at h
      obtain ⟨rfl, hg, hb⟩ := blt_of h.1.1
      exact s_rng1 (gl_of g.sc hg) (g.wd.bl _ hb) h.1.2 (ckE_ok a g h.2).1
  | .rng2 a b, X, sc, W, e, tg, g, h => by
    simp only [ckS] at h
    cases hv : vCall e with
    | none => rw [hv] at h; cases h
    | some q =>
      obtain ⟨x, es⟩ := q
      obtain ⟨p, q, rfl⟩ := vCall_ok hv
      rw [hv] at h
      rcases es with _ | ⟨y, _ | ⟨z, _ | ⟨w, es⟩⟩⟩ <;> first | (cases h; done) | skip
      simp only [Bool.and_eq_true] at h
      obtain ⟨rfl, hg, hb⟩ := blt_of h.1.1.1.1
      exact s_rng2 (gl_of g.sc hg) (g.wd.bl _ hb) h.1.1.1.2 h.1.1.2 (ckE_ok a g h.1.2).1 (ckE_ok b g h.2).1
  | .items _, X, sc, W, e, tg, g, h => by simp only [ckS] at h; cases h
  | .enum _, X, sc, W, e, tg, g, h => by simp only [ckS] at h; cases h
  | .zip _ _, X, sc, W, e, tg, g, h => by simp only [ckS] at h; cases h
end
end PD
/-! The check: statements. -/
namespace PD
open PySem L2 PySem.Spec PyProof.Rows
def isStar : Expr → Bool
  | .Starred _ _ => true
  | _ => false
def locN (sc : Scope) (line : Nat) : Expr → Option Str
  | .Name id pos => if sc.names.lookup id == some .local && pos.line == line then some id else none
  | _ => none
def lineOf (ts : List Expr) : Nat := (ts.head?.map (·.pos.line)).getD 0
/-- the names of stores that go from the right -/
def swL (sc : Scope) (ts vs : List Expr) : Option (List Str) :=
  if (!(ts.length == 2 || ts.length == 3) || vs.length != ts.length) = true then none else
  if vs.any isStar = true then none else
  if ((ts.filterMap (locN sc (lineOf ts))).length != ts.length || (ts.filterMap (locN sc (lineOf ts))).eraseDups.length != (ts.filterMap (locN sc (lineOf ts))).length) = true then none else
  if vs.all (foldedForSure 8) = true then none else some (ts.filterMap (locN sc (lineOf ts)))
theorem swL_ok {sc : Scope} {env : Env} {ts vs : List Expr} {k k2 : Nat} {p p2 : Pos} (hs : env.scope = sc) (hk : sc.kind = .function) (h : swL sc ts vs = none ∨ vs.all (constantsAlone 8) = false) : swappedStores [.Tuple ts k p] (.Tuple vs k2 p2) env = pure (swL sc ts vs) := by
  subst hs
  have hb : env.blockKind = .function := by
    unfold Env.blockKind
    rw [hk]
    rfl
  have hbn : (env.blockKind != .function) = false := by rw [hb]; rfl
  unfold swappedStores
  show (if (!(ts.length == 2 || ts.length == 3) || vs.length != ts.length || env.blockKind != .function) = true then (pure none : Sem (Option (List Str))) else _) = _
  rw [hbn, Bool.or_false]
  unfold swL at h ⊢
  by_cases c1 : (!(ts.length == 2 || ts.length == 3) || vs.length != ts.length) = true
  · rw [if_pos c1, if_pos c1]
  · rw [if_neg c1] at h ⊢
    rw [if_neg c1]
    show (if vs.any isStar = true then (pure none : Sem (Option (List Str))) else _) = _
    by_cases c2 : vs.any isStar = true
    · rw [if_pos c2, if_pos c2]
    · rw [if_neg c2] at h ⊢
      rw [if_neg c2]
      show (if ((ts.filterMap (locN env.scope (lineOf ts))).length != ts.length || (ts.filterMap (locN env.scope (lineOf ts))).eraseDups.length != (ts.filterMap (locN env.scope (lineOf ts))).length) = true then (pure none : Sem (Option (List Str))) else _) = _
      by_cases c3 : ((ts.filterMap (locN env.scope (lineOf ts))).length != ts.length || (ts.filterMap (locN env.scope (lineOf ts))).eraseDups.length != (ts.filterMap (locN env.scope (lineOf ts))).length) = true
      · rw [if_pos c3, if_pos c3]
      · rw [if_neg c3] at h ⊢
        rw [if_neg c3]
        by_cases c4 : vs.all (foldedForSure 8) = true
        · rw [if_pos c4, if_pos c4]
        · rw [if_neg c4] at h ⊢
          rw [if_neg c4]
          have c5 : vs.all (constantsAlone 8) = false := h.resolve_left fun z => by cases z
          rw [if_neg (by rw [c5]; exact Bool.false_ne_true)]
          rfl
/-! ### statements -/
def lcSwap (sc : Scope) (x : Str) (line : Nat) : Expr → Bool
  | .ListComp _ _ scope p => isLoc sc x && (line == p.line) && !(scope.names.any fun (n, k) => n == x && (k == .local || k == .cell))
  | _ => false
def isLc : IE → Bool
  | .lc _ _ _ _ _ _ => true
  | _ => false
/-- x = v at a name: plain, swapped, or a comprehension that is not swapped -/
def setB (sc : Scope) (x : Str) (line : Nat) (ie : IE) (v : Expr) : Bool := noComp v || (isLc ie && lcSwap sc x line v) || (!isLoc sc x)
def isNameB (e : Expr) (x : Str) : Bool := match vName e with
  | some y => decide (x = y)
  | none => false
def parB (sc : Scope) (es vs : List Expr) (xs : List Str) : Bool := decide (swL sc es vs = some xs) && !(vs.all (constantsAlone 8))
section
variable (T : Tab) (N : List Str)
mutual
def ckSt : IS → Scope → Stmt → Bool
  | .set t e => fun sc st => match st with
    | .Assign [tg] v _ => (match t with
      | .nm i => nameB N (fun _ => true) sc tg i && (match vName tg with
        | some x => setB sc x tg.pos.line e v
        | none => false)
      | .tp is => match vTup tg with
        | some es => namesB N (fun _ => true) sc es is && (match vTup v with
          | some vs => decide (swL sc es vs = none)
          | none => true)
        | none => false) && ckE T N e sc v
    | _ => false
  | .par i j a b => fun sc st => match st with
    | .Assign [tg] v _ => (match vTup tg, vTup v with
      | some [e1, e2], some [v1, v2] => nameB N (fun _ => true) sc e1 i && nameB N (fun _ => true) sc e2 j && (match vName e1, vName e2 with
        | some x, some y => isLoc sc x && isLoc sc y && parB sc [e1, e2] [v1, v2] [x, y]
        | _, _ => false) && decide (i ≠ j) && noStar v1 && noStar v2 && ckE T N a sc v1 && ckE T N b sc v2
      | _, _ => false)
    | _ => false
  | .par3 i j l a b c => fun sc st => match st with
    | .Assign [tg] v _ => (match vTup tg, vTup v with
      | some [e1, e2, e3], some [v1, v2, v3] => nameB N (fun _ => true) sc e1 i && nameB N (fun _ => true) sc e2 j && nameB N (fun _ => true) sc e3 l && (match vName e1, vName e2, vName e3 with
        | some x, some y, some z => isLoc sc x && isLoc sc y && isLoc sc z && parB sc [e1, e2, e3] [v1, v2, v3] [x, y, z]
        | _, _, _ => false) && decide (i ≠ j) && decide (i ≠ l) && decide (j ≠ l) && noStar v1 && noStar v2 && noStar v3 && ckE T N a sc v1 && ckE T N b sc v2 && ckE T N c sc v3
      | _, _ => false)
    | _ => false
  | .aug o i e => fun sc st => match st with
    | .AugAssign tg op v _ => decide (opOf op = some o) && nameB N (fun _ => true) sc tg i && ckE T N e sc v
    | _ => false
  | .auge i e => fun sc st => match st with
    | .AugAssign tg op v _ => decide (op = .Add) && nameB N (fun _ => true) sc tg i && ckE T N e sc v
    | _ => false
  | .ixset o k v => fun sc st => match st with
    | .Assign [tg] e _ => (match vSub tg with
      | some (x, y) => noSlice y && ckE T N o sc x && ckE T N k sc y && ckE T N v sc e
      | none => false)
    | _ => false
  | .ixaug q o k v => fun sc st => match st with
    | .AugAssign tg op e _ => (match vSub tg with
      | some (x, y) => decide (opOf op = some q) && noSlice y && ckE T N o sc x && ckE T N k sc y && ckE T N v sc e
      | none => false)
    | _ => false
  | .fset c f o v => fun sc st => match st with
    | .Assign [tg] e _ => (match vAttr tg with
      | some (x, m) => decide (m = f) && (T.fls.any fun t => decide (t.1 = c) && decide (t.2 = f)) && ckE T N o sc x && ckE T N v sc e
      | none => false)
    | _ => false
  | .ex e => fun sc st => match st with
    | .Expr v _ => noComp v && ckE T N e sc v
    | _ => false
  | .iff c a b => fun sc st => match st with
    | .If t x y _ => ckT T N c sc t && ckB a sc x && ckB b sc y
    | _ => false
  | .whl c b => fun sc st => match st with
    | .While t x [] _ => ckT T N c sc t && ckB b sc x
    | _ => false
  | .for_ tg src b => fun sc st => match st with
    | .For t it x [] _ => tgB N (fun _ => true) sc tg t && noSet it && ckS T N src sc it && ckB b sc x
    | _ => false
  | .ret _ e => fun sc st => match st with
    | .Return (some v) _ => ckE T N e sc v
    | _ => false
  | .retN => fun _ st => match st with
    | .Return none _ => true
    | _ => false
  | .pass => fun _ st => match st with
    | .Pass _ => true
    | _ => false
  | .bad => fun _ _ => true
def ckB : IB → Scope → List Stmt → Bool
  | .nil => fun _ sts => sts.isEmpty
  | .cons s b => fun sc sts => match sts with
    | [] => false
    | st :: sts => ckSt s sc st && ckB b sc sts
end
end
section
variable {cl : Nat → Addr} {Φ : Nat → List Arg → LR} {T : Tab} {N : List Str} {j : Nat} {X : Cx} {sc : Scope} {W : WX} {fuel : Nat}
/-- a body's context -/
structure GoodS (X : Cx) (cl : Nat → Addr) (Φ : Nat → List Arg → LR) (T : Tab) (N : List Str) (j : Nat) (sc : Scope) (W : WX) : Prop where
  g : Good X cl Φ T N j sc W
  fn : ∀ y, X.fn y = true
  own : PassesOwn (model X.prog X.w) X.A X.env X.xe
  kind : sc.kind = .function
theorem isLoc_ok {x : Str} (hs : X.env.scope = sc) (h : isLoc sc x = true) : X.env.scope.names.lookup x = some .local := by
  rw [hs]
  unfold isLoc at h
  split at h
  · assumption
  · cases h
/-- a comprehension at a name that is not a plain local: not swapped -/
theorem swaps_cell {x : Str} {px : Pos} {v : Expr} {l : Nat} (hs : X.env.scope = sc) (h : isLoc sc x = false) : swapsWith v (some (.Name x px)) l X.env = pure false := by
  have hk : (X.env.kindOf x == some .local) = false := by
    unfold Env.kindOf
    rw [hs]
    unfold isLoc at h
    split at h
    · cases h
    · rename_i hn
      cases hl : sc.names.lookup x with
      | none => rfl
      | some k =>
        cases k <;> first | rfl | exact absurd hl hn
  cases v <;> first | rfl | skip
  all_goals
    unfold swapsWith
    simp only [hk, Bool.and_false, Bool.false_and]
theorem s_set_ok (gs : GoodS X cl Φ T N j sc W) {i : Nat} {e : IE} {tg v : Expr} {pos : Pos} (h : (nameB N (fun _ => true) sc tg i && (match vName tg with
        | some x => setB sc x tg.pos.line e v
        | none => false)) = true) (he : ckE T N e sc v = true) : PS X (.Assign [tg] v pos) (tS X cl W (ex Φ fuel (.set (.nm i) e))) := by
  rw [Bool.and_eq_true] at h
  obtain ⟨h1, h2⟩ := h
  obtain ⟨x, p, rfl, hi, hl, hf⟩ := nameB_ok gs.g.hN gs.g.sc (fun x _ => gs.fn x) h1
  have hN : X.N.Nodup := by rw [gs.g.hN]; exact gs.g.nd
  have pe := (ckE_ok e gs.g he).1
  simp only [vName, setB, Bool.or_eq_true, Bool.and_eq_true, Bool.not_eq_true'] at h2
  show PS X _ (tS X cl W fun ρ S => (ev Φ e ρ S).out ρ fun d S => .next (ρ.set i (some d)) S)
  rcases h2 with (h2 | h2) | h2
  · exact s_set (ps_set hN hi hl pe (swaps_no h2) hf)
  · obtain ⟨hlc, hsw⟩ := h2
    cases e <;> first | (cases hlc; done) | skip
    rename_i bx own elt tg src cond
    simp only [ckE] at he
    cases hv : vLc v with
    | none => rw [hv] at he; cases he
    | some q =>
      obtain ⟨y, tge, iter, ifs, scope⟩ := q
      obtain ⟨p2, rfl⟩ := vLc_ok hv
      rw [hv] at he
      simp only [Bool.and_eq_true] at he
      obtain ⟨⟨⟨g1, g2⟩, g3⟩, g4⟩ := he
      obtain ⟨ok, hg, hvn, hset⟩ := blk_ok gs.g g1
      have ht : ∀ (s : Shared) (H : Hp) (C : Addr) (cll : List (Str × Addr)) (fp : List Addr), PTs (X.blk s H scope (compEnvC scope cll C X.env) fp) ifs (tT X cl WN (evT Φ cond)) := fun s H C cll fp => by
        rcases ifs with _ | ⟨c, _ | ⟨c2, ifs⟩⟩
        · cases cond <;> first | exact ts_nil | cases g3
        · exact ts_one (ckT_ok cond (gs.g.blk s H scope C cll fp) g3).1
        · cases g3
      have hE : ∀ (s : Shared) (H : Hp) (C : Addr) (cll : List (Str × Addr)) (fp : List Addr), PE (X.blk s H scope (compEnvC scope cll C X.env) fp) y (tE X cl WN (ev Φ elt)) := fun s H C cll fp => (ckE_ok elt (gs.g.blk s H scope C cll fp) g4).1
      simp only [lcSwap, Bool.and_eq_true, Bool.not_eq_true'] at hsw
      obtain ⟨⟨s1, s2⟩, s3⟩ := hsw
      have hloc := isLoc_ok gs.g.sc s1
      refine s_set ((ps_setLc (pos := p2) (spos := pos) gs.g.calm hN hi hloc (sw_true (by rw [gs.g.sc]; exact gs.kind) hloc s2 s3) (ckS_ok src gs.g g2) ok hg ht hE hset).imp fun E σ H hw => ?_)
      refine lc_imp (cl := cl) (bx := bx) hvn ?_
      rw [own_map]
      exact hw
  · exact s_set (ps_set hN hi hl pe (swaps_cell gs.g.sc h2) hf)
theorem s_tp_ok (gs : GoodS X cl Φ T N j sc W) {is : List Nat} {e : IE} {tg v : Expr} {pos : Pos} (h : (match vTup tg with
        | some es => namesB N (fun _ => true) sc es is && (match vTup v with
          | some vs => decide (swL sc es vs = none)
          | none => true)
        | none => false) = true) (he : ckE T N e sc v = true) : PS X (.Assign [tg] v pos) (tS X cl W (ex Φ fuel (.set (.tp is) e))) := by
  cases hv : vTup tg with
  | none => rw [hv] at h; cases h
  | some es =>
    obtain ⟨k, p, rfl⟩ := vTup_ok hv
    rw [hv] at h
    simp only [Bool.and_eq_true] at h
    obtain ⟨h1, h2⟩ := h
    have hN : X.N.Nodup := by rw [gs.g.hN]; exact gs.g.nd
    have pe := (ckE_ok e gs.g he).1
    have pg := pg_names (k := k) (pos := p) gs.g.calm hN (namesB_ok gs.g.hN gs.g.sc (fun x _ => gs.fn x) h1)
    have hw : swappedStores [.Tuple es k p] v X.env = pure none := by
      cases hv2 : vTup v with
      | some vs =>
        obtain ⟨k2, p2, rfl⟩ := vTup_ok hv2
        rw [hv2] at h2
        have e0 := of_decide_eq_true h2
        rw [swL_ok gs.g.sc gs.kind (.inl e0), e0]
      | none => cases v <;> first | rfl | cases hv2
    exact s_tp (ps_asg pe pg (swaps_tup : swapsWith v (some (.Tuple es k p)) pos.line X.env = pure false) hw)
theorem vName_tup {e : Expr} {x : Str} {i : Nat} (gs : GoodS X cl Φ T N j sc W) (h : nameB N (fun _ => true) sc e i = true) (hv : vName e = some x) : ∃ p, e = .Name x p ∧ X.N[i]? = some x := by
  obtain ⟨y, p, rfl, hi, _, _⟩ := nameB_ok gs.g.hN gs.g.sc (fun x _ => gs.fn x) h
  cases hv
  exact ⟨p, rfl, hi⟩
mutual
theorem ckSt_ok : ∀ (is : IS) {st : Stmt}, GoodS X cl Φ T N j sc W → ckSt T N is sc st = true → PS X st (tS X cl W (ex Φ fuel is))
  | .set t e, st, gs, h => by
    simp only [ckSt] at h
    split at h
    · simp only [Bool.and_eq_true] at h
      cases t with
      | nm i => exact s_set_ok gs (by simpa only [Bool.and_eq_true] using h.1) h.2
      | tp is => exact s_tp_ok gs h.1 h.2
    · cases h
  | .par i jj a b, st, gs, h => by
    simp only [ckSt] at h
    split at h
    · rename_i tg v pos
      cases hv : vTup tg with
      | none => rw [hv] at h; cases h
      | some es =>
        obtain ⟨k, p, rfl⟩ := vTup_ok hv
        cases hv2 : vTup v with
        | none =>
          rw [hv, hv2] at h
          rcases es with _ | ⟨e1, _ | ⟨e2, _ | ⟨e3, es⟩⟩⟩ <;> cases h
        | some vs =>
          obtain ⟨k2, p2, rfl⟩ := vTup_ok hv2
          rw [hv, hv2] at h
          rcases es with _ | ⟨e1, _ | ⟨e2, _ | ⟨e3, es⟩⟩⟩ <;> first | (cases h; done) | skip
          rcases vs with _ | ⟨v1, _ | ⟨v2, _ | ⟨v3, vs⟩⟩⟩ <;> first | (cases h; done) | skip
          simp only [Bool.and_eq_true, decide_eq_true_eq] at h
          obtain ⟨⟨⟨⟨⟨⟨⟨h1, h2⟩, h3⟩, h4⟩, h5⟩, h6⟩, h7⟩, h8⟩ := h
          cases hn1 : vName e1 with
          | none => rw [hn1] at h3; cases h3
          | some x =>
            cases hn2 : vName e2 with
            | none => rw [hn1, hn2] at h3; cases h3
            | some y =>
              rw [hn1, hn2] at h3
              obtain ⟨q1, rfl, i1⟩ := vName_tup gs h1 hn1
              obtain ⟨q2, rfl, i2⟩ := vName_tup gs h2 hn2
              simp only [Bool.and_eq_true, parB, decide_eq_true_eq, Bool.not_eq_true'] at h3
              obtain ⟨⟨l1, l2⟩, l3, l4⟩ := h3
              have hN : X.N.Nodup := by rw [gs.g.hN]; exact gs.g.nd
              have pa := pa_cons (ckE_ok a gs.g h7).1 (pa_cons (ckE_ok b gs.g h8).1 pa_nil (star_cons h6)) (star_cons h5)
              exact s_par (ps_par gs.g.calm hN i1 i2 h4 (isLoc_ok gs.g.sc l1) (isLoc_ok gs.g.sc l2) pa (by rw [swL_ok gs.g.sc gs.kind (.inr l4), l3]))
    · cases h
  | .par3 i jj l a b c, st, gs, h => by
    simp only [ckSt] at h
    split at h
    · rename_i tg v pos
      cases hv : vTup tg with
      | none => rw [hv] at h; cases h
      | some es =>
        obtain ⟨k, p, rfl⟩ := vTup_ok hv
        cases hv2 : vTup v with
        | none =>
          rw [hv, hv2] at h
          rcases es with _ | ⟨e1, _ | ⟨e2, _ | ⟨e3, _ | ⟨e4, es⟩⟩⟩⟩ <;> cases h
        | some vs =>
          obtain ⟨k2, p2, rfl⟩ := vTup_ok hv2
          rw [hv, hv2] at h
          rcases es with _ | ⟨e1, _ | ⟨e2, _ | ⟨e3, _ | ⟨e4, es⟩⟩⟩⟩ <;> first | (cases h; done) | skip
          rcases vs with _ | ⟨v1, _ | ⟨v2, _ | ⟨v3, _ | ⟨v4, vs⟩⟩⟩⟩ <;> first | (cases h; done) | skip
          simp only [Bool.and_eq_true, decide_eq_true_eq] at h
          obtain ⟨⟨⟨⟨⟨⟨⟨⟨⟨⟨⟨⟨h1, h2⟩, h2b⟩, h3⟩, h4⟩, h4b⟩, h4c⟩, h5⟩, h6⟩, h6b⟩, h7⟩, h8⟩, h9⟩ := h
          cases hn1 : vName e1 with
          | none => rw [hn1] at h3; cases h3
          | some x =>
            cases hn2 : vName e2 with
            | none => rw [hn1, hn2] at h3; cases h3
            | some y =>
              cases hn3 : vName e3 with
              | none => rw [hn1, hn2, hn3] at h3; cases h3
              | some z =>
                rw [hn1, hn2, hn3] at h3
                obtain ⟨q1, rfl, i1⟩ := vName_tup gs h1 hn1
                obtain ⟨q2, rfl, i2⟩ := vName_tup gs h2 hn2
                obtain ⟨q3, rfl, i3⟩ := vName_tup gs h2b hn3
                simp only [Bool.and_eq_true, parB, decide_eq_true_eq, Bool.not_eq_true'] at h3
                obtain ⟨⟨⟨l1, l2⟩, l2b⟩, l3, l4⟩ := h3
                have hN : X.N.Nodup := by rw [gs.g.hN]; exact gs.g.nd
                have pa := pa_cons (ckE_ok a gs.g h7).1 (pa_cons (ckE_ok b gs.g h8).1 (pa_cons (ckE_ok c gs.g h9).1 pa_nil (star_cons h6b)) (star_cons h6)) (star_cons h5)
                exact s_par3 (ps_par3 gs.g.calm hN i1 i2 i3 h4 h4b h4c (isLoc_ok gs.g.sc l1) (isLoc_ok gs.g.sc l2) (isLoc_ok gs.g.sc l2b) pa (by rw [swL_ok gs.g.sc gs.kind (.inr l4), l3]))
    · cases h
  | .aug o i e, st, gs, h => by
    simp only [ckSt] at h
    split at h
    · simp only [Bool.and_eq_true, decide_eq_true_eq] at h
      obtain ⟨⟨h1, h2⟩, h3⟩ := h
      obtain ⟨x, p, rfl, hi, hl, hf⟩ := nameB_ok gs.g.hN gs.g.sc (fun x _ => gs.fn x) h2
      exact s_aug (ps_aug (by rw [gs.g.hN]; exact gs.g.nd) hi hl (ckE_ok e gs.g h3).1 (ip_aug h1) hf)
    · cases h
  | .auge i e, st, gs, h => by
    simp only [ckSt] at h
    split at h
    · simp only [Bool.and_eq_true, decide_eq_true_eq] at h
      obtain ⟨⟨rfl, h2⟩, h3⟩ := h
      obtain ⟨x, p, rfl, hi, hl, hf⟩ := nameB_ok gs.g.hN gs.g.sc (fun x _ => gs.fn x) h2
      exact s_auge (ps_aug (by rw [gs.g.hN]; exact gs.g.nd) hi hl (ckE_ok e gs.g h3).1 iop_ext hf)
    · cases h
  | .ixset o k v, st, gs, h => by
    simp only [ckSt] at h
    split at h
    · rename_i tg e pos
      cases hv : vSub tg with
      | none => rw [hv] at h; cases h
      | some q =>
        obtain ⟨x, y⟩ := q
        obtain ⟨p, rfl⟩ := vSub_ok hv
        rw [hv] at h
        simp only [Bool.and_eq_true] at h
        exact s_ixset gs.g.hu h.1.1.1 (ckE_ok o gs.g h.1.1.2).1 (ckE_ok k gs.g h.1.2).1 (ckE_ok v gs.g h.2).1
    · cases h
  | .ixaug q o k v, st, gs, h => by
    simp only [ckSt] at h
    split at h
    · rename_i tg op e pos
      cases hv : vSub tg with
      | none => rw [hv] at h; cases h
      | some q =>
        obtain ⟨x, y⟩ := q
        obtain ⟨p, rfl⟩ := vSub_ok hv
        rw [hv] at h
        simp only [Bool.and_eq_true, decide_eq_true_eq] at h
        exact s_ixaug gs.g.hu h.1.1.1.1 h.1.1.1.2 (ckE_ok o gs.g h.1.1.2).1 (ckE_ok k gs.g h.1.2).1 (ckE_ok v gs.g h.2).1
    · cases h
  | .fset c f o v, st, gs, h => by
    simp only [ckSt] at h
    split at h
    · rename_i tg e pos
      cases hv : vAttr tg with
      | none => rw [hv] at h; cases h
      | some q =>
        obtain ⟨x, m⟩ := q
        obtain ⟨p, rfl⟩ := vAttr_ok hv
        rw [hv] at h
        simp only [Bool.and_eq_true, decide_eq_true_eq] at h
        obtain ⟨⟨⟨rfl, h2⟩, h3⟩, h4⟩ := h
        obtain ⟨t, ht, h5⟩ := any_mem h2
        simp only [Bool.and_eq_true, decide_eq_true_eq] at h5
        obtain ⟨rfl, h6⟩ := h5
        obtain ⟨hc, hn⟩ := gs.g.wd.fl t ht
        rw [h6] at hn
        exact s_fset hc hn (ckE_ok o gs.g h3).1 (ckE_ok v gs.g h4).1
    · cases h
  | .ex e, st, gs, h => by
    simp only [ckSt] at h
    split at h
    · simp only [Bool.and_eq_true] at h
      exact s_ex h.1 (ckE_ok e gs.g h.2).1
    · cases h
  | .iff c a b, st, gs, h => by
    simp only [ckSt] at h
    split at h
    · simp only [Bool.and_eq_true] at h
      exact s_if (ckT_ok c gs.g h.1.1).1 (ckB_ok a gs h.1.2) (ckB_ok b gs h.2)
    · cases h
  | .whl c b, st, gs, h => by
    simp only [ckSt] at h
    split at h
    · simp only [Bool.and_eq_true] at h
      exact s_while gs.own (ckT_ok c gs.g h.1).1 (ckB_ok b gs h.2)
    · cases h
  | .for_ tg src b, st, gs, h => by
    simp only [ckSt] at h
    split at h
    · simp only [Bool.and_eq_true] at h
      obtain ⟨⟨⟨h1, h2⟩, h3⟩, h4⟩ := h
      exact s_for gs.own gs.g.calm (ckS_ok src gs.g h3) (tgB_ok gs.g.hN gs.g.nd gs.g.calm gs.g.sc (fun x _ => gs.fn x) h1) (ckB_ok b gs h4) (set_no h2)
    · cases h
  | .ret fz e, st, gs, h => by
    simp only [ckSt] at h
    split at h
    · exact s_ret (ckE_ok e gs.g h).1
    · cases h
  | .retN, st, gs, h => by
    simp only [ckSt] at h
    split at h
    · exact s_retN
    · cases h
  | .pass, st, gs, h => by
    simp only [ckSt] at h
    split at h
    · exact s_pass
    · cases h
  | .bad, st, gs, h => s_bad
theorem ckB_ok : ∀ (b : IB) {sts : List Stmt}, GoodS X cl Φ T N j sc W → ckB T N b sc sts = true → PSs X sts (tS X cl W (exs Φ fuel b))
  | .nil, sts, gs, h => by
    simp only [ckB] at h
    cases sts with
    | nil => exact b_nil
    | cons _ _ => cases h
  | .cons s b, sts, gs, h => by
    simp only [ckB] at h
    cases sts with
    | nil => cases h
    | cons st sts =>
      simp only [Bool.and_eq_true] at h
      exact b_cons (ckSt_ok s gs h.1) (ckB_ok b gs h.2)
end
end
/-- THE DEF: by the check of its body and what its run says -/
theorem fn_ck {P : Program} {w : World} {K : PySem.W.Frag} {mg : Str → Option Value} {base : Heap} {cl : Nat → Addr} {Φ : Nat → List Arg → LR} {T : Tab} {fuel j : Nat} {x qual : Str} {st : Stmt} {f : Addr} {fd : FuncData} {N ps : List Str} {b : IB} {Fn : List Arg → LR}
    (wd : Wd P w K mg base cl Φ T j) (Fd : C8.Fun K x qual st f fd) (hsc : C8.scC N ps (C8.fnScope st) = true) (hb : ckB T N b (C8.fnScope st) (C8.fnBody st) = true)
    (hlen : ∀ as, Fn as ≠ .bad → as.length = ps.length) (hs : ∀ as, as.length = ps.length → Says (runB Φ fuel b N.length (numA 0 as) (boxesA as)) (boxesA as).length (Fn as)) : FnOk P w K mg base (L2.CX P w) (j + 2) f fd ps (spL K cl Fn) := by
  have S := C8.fnScope_by hsc
  refine fn_by Fd S (fun X h1 h2 h3 h4 h5 h6 h7 h8 h9 h10 h11 W tk => ?_) hlen hs
  subst h1 h2 h3 h4 h5
  exact ckB_ok b ⟨⟨wd, h6, S.nd, h7, h8, h10, tk⟩, h9, h11, S.kind⟩ hb
end PD
/-! The law's end. -/
namespace PD
open PySem L2 PySem.Spec PyProof.Rows
/-- law's promise -/
def spLaw (K : PySem.W.Frag) (n : Nat) : Sp := fun vs H Q E => ∃ (a : Addr) (ns : List Int), vs = [.ref a] ∧ SqL K H a (ns.map V.int) ∧ ns.length ≤ n ∧ ∀ H', Q (.bl true) H'
theorem law_imp {K : PySem.W.Frag} {cl : Nat → Addr} {n : Nat} {Fn : List Arg → LR} (hFn : ∀ ns : List Int, ns.length ≤ n → Fn [.p (.fls (ns.map .int))] = .ok (.p (.bl true)) []) (vs : List V) (H : Hp) (Q : VK) (E : XK) (h : spLaw K n vs H Q E) : spL K cl Fn vs H Q E := by
  obtain ⟨a, ns, rfl, hs, hl, k⟩ := h
  have eG : Gz [] [] [] H = H := by
    funext b
    exact gz_of (fun ⟨n, o, e, _⟩ => by simp at e) (by simp)
  have B : Bears K cl [] [] H [] := ⟨rfl, List.nodup_nil, fun n a o e _ => by simp at e, fun n a e => by simp at e, fun n a e => by simp at e, fun a e => by simp at e⟩
  refine ⟨[], [], [.p (.fls (ns.map .int))], B, ?_, rfl, ?_⟩
  · refine ⟨.ref a, [], rfl, ⟨a, _, rfl, ?_, repL_ints ns⟩, rfl⟩
    show SqL K (Gz [] [] [] H) a _
    rw [eG]
    exact hs
  · rw [hFn ns hl]
    intro v μ' H' B' f' r
    have : v = .bl true := r
    rw [this]
    exact k H'
theorem walk_pd {l : PySem.W.OpenLaw} {k : Nat} {q : Program} {loose : List Str} {XP : (Str → Option Value) → Heap → Prop} {YP : World → Heap → Prop} {d : DefRec} {K : Params → PySem.W.Frag} {Fn : List Arg → LR} (hn : l.most = some 63) (hdf : d.params.defaults = []) (hr : Room k callerA)
    (hY : ∀ (w : World) (h : Heap), YP w h → (K w.params).In h)
    (hFn : ∀ ns : List Int, ns.length ≤ 63 → Fn [.p (.fls (ns.map .int))] = .ok (.p (.bl true)) [])
    (F : ∀ (w : World) (mg : Str → Option Value) (fa : Addr) (h : Heap), (K w.params).In h → h.Ns mainGlobals mg → mg d.name = some (.ref fa) →
      ∃ (cl : Nat → Addr) (fd : FuncData), (∀ (s : Shared) (u : Value), BindsTo s fd ⟨[u], []⟩ [("script", u)]) ∧ ∀ base : Heap, (K w.params).In base → base.Ns mainGlobals mg → FnOk l.prog w (K w.params) mg base (L2.CX l.prog w) k fa fd ["script"] (spL (K w.params) cl Fn)) :
    PySem.W.WalkO q loose XP YP l.row.toRowW d [] (fun f vs => PySem.call f vs) :=
  L2.walk_of (n := 63) (k := k) (x := "script") (CX := fun w => L2.CX l.prog w) (sp := fun w => spLaw (K w.params) 63) hn (by decide) hdf hr hY (fun w mg fa h KX G hm => by
    obtain ⟨cl, fd, h1, h2⟩ := F w mg fa h KX G hm
    exact ⟨fd, h1, fun base kb nb => (h2 base kb nb).imp fun vs H Q E z => law_imp hFn vs H Q E z⟩) (fun _ _ a ns hl _ hS => ⟨a, ns, rfl, hS, hl, fun _ => rfl⟩) fun _ _ _ _ _ z => by
    obtain ⟨_, _, _, _, _, _, _, _, _, _, _, _, z⟩ := z
    exact z
end PD
/-! isinstance's answers from the head's facts. -/
namespace PD
open PySem L2
/-- the built-in types that stand for data -/
def seven : List String := ["NoneType", "bool", "int", "str", "tuple", "list", "dict"]
structure KitC (K : PySem.W.Frag) (C : Addr) : Prop where
  ic : PySem.W.isClsIn K C = true
  ty : PySem.W.typeIn K (.ref C) = some (.type "type")
  up : ∀ a ∈ seven, PySem.W.subIn K (.type a) (.ref C) = some false
  dn : ∀ a ∈ seven, PySem.W.subIn K (.ref C) (.type a) = some false
theorem kit_any {K : PySem.W.Frag} {cl : Nat → Addr} {p : P} {v : Value} : ∀ {ts : List Ty}, (∀ t ∈ ts, PySem.W.kitOne K v (tyVal cl t) = some (isTy p t)) → PySem.W.kitAny K v (ts.map (tyVal cl)) = some (ts.any (isTy p))
  | [], _ => rfl
  | t :: ts, h => by
    have h1 := h t List.mem_cons_self
    have h2 := kit_any fun u hu => h u (List.mem_cons_of_mem _ hu)
    refine kitAny_cons h1 (fun e => ?_) (fun e => ?_)
    · rw [List.any_cons, e, Bool.false_or]
      exact h2
    · rw [List.any_cons, e]
      rfl
theorem kitOne_cls {K : PySem.W.Frag} {C : Addr} {v : Value} {b : Bool} (k : KitC K C) (ne : (v == .ref C) = false) (h : PySem.W.subIn K v (.ref C) = some b) : PySem.W.kitOne K v (.ref C) = some b := by
  unfold PySem.W.kitOne
  rw [ne]
  show PySem.W.kitCls K v (.ref C) = some b
  unfold PySem.W.kitCls
  have e : ((PySem.W.clsIn K C).isSome && PySem.W.typeIn K (.ref C) == some (.type "type")) = true := by
    rw [k.ty]
    have := k.ic
    unfold PySem.W.isClsIn at this
    rw [this]
    rfl
  dsimp only
  rw [if_pos e]
  exact h
theorem kit_gen {K : PySem.W.Frag} {cl : Nat → Addr} {n : Nat} (hc : ∀ c, c < n → KitC K (cl c)) (hp : ∀ c c', c < n → c' < n → c ≠ c' → cl c ≠ cl c' ∧ PySem.W.subIn K (.ref (cl c)) (.ref (cl c')) = some false) {ts : List Ty} (ht : ∀ t ∈ ts, match t with
    | .cls c => c < n
    | .none => False
    | _ => True) : KitOk K cl n ts (ts.map (tyVal cl)) := fun p hp' => by
  refine kit_any fun t htt => ?_
  have hk := ht t htt
  unfold kinds at hp'
  rw [List.mem_append] at hp'
  have tyty : ∀ {a b : String} {r : Bool}, kitB a b = some r → PySem.W.kitOne K (.type a) (.type b) = some r := fun h => kit_ty h
  rcases hp' with hp' | hp'
  · cases t with
    | none => exact hk.elim
    | cls c =>
      have k := hc c hk
      simp only [List.mem_cons, List.not_mem_nil, or_false] at hp'
      rcases hp' with rfl | rfl | rfl | rfl | rfl | rfl | rfl <;> exact kitOne_cls k rfl (k.up _ (by simp [seven]))
    | int => simp only [List.mem_cons, List.not_mem_nil, or_false] at hp'; rcases hp' with rfl | rfl | rfl | rfl | rfl | rfl | rfl <;> exact tyty (by decide +kernel)
    | bool => simp only [List.mem_cons, List.not_mem_nil, or_false] at hp'; rcases hp' with rfl | rfl | rfl | rfl | rfl | rfl | rfl <;> exact tyty (by decide +kernel)
    | str => simp only [List.mem_cons, List.not_mem_nil, or_false] at hp'; rcases hp' with rfl | rfl | rfl | rfl | rfl | rfl | rfl <;> exact tyty (by decide +kernel)
    | tup => simp only [List.mem_cons, List.not_mem_nil, or_false] at hp'; rcases hp' with rfl | rfl | rfl | rfl | rfl | rfl | rfl <;> exact tyty (by decide +kernel)
    | lst => simp only [List.mem_cons, List.not_mem_nil, or_false] at hp'; rcases hp' with rfl | rfl | rfl | rfl | rfl | rfl | rfl <;> exact tyty (by decide +kernel)
    | dict => simp only [List.mem_cons, List.not_mem_nil, or_false] at hp'; rcases hp' with rfl | rfl | rfl | rfl | rfl | rfl | rfl <;> exact tyty (by decide +kernel)
  · obtain ⟨c, hcn, rfl⟩ := List.mem_map.mp hp'
    have hcl := List.mem_range.mp hcn
    have k := hc c hcl
    have own : ∀ (a : String), a ∈ seven → PySem.W.kitMeta a = true → PySem.W.kitOne K (.ref (cl c)) (.type a) = some false := fun a ha hm => by
      unfold PySem.W.kitOne
      show PySem.W.kitCls K (.ref (cl c)) (.type a) = some false
      unfold PySem.W.kitCls
      dsimp only
      rw [if_pos hm]
      exact k.dn a ha
    cases t with
    | none => exact hk.elim
    | cls c' =>
      by_cases e : c = c'
      · subst e
        have : isTy (.ins c [] []) (.cls c) = true := by simp [isTy]
        rw [this]
        unfold PySem.W.kitOne
        show (if (Value.ref (cl c) == Value.ref (cl c)) = true then some true else _) = some true
        rw [if_pos (by simp)]
      · obtain ⟨h1, h2⟩ := hp c c' hcl hk e
        have : isTy (.ins c [] []) (.cls c') = false := by simp [isTy, e]
        rw [this]
        exact kitOne_cls (hc c' hk) (by
          show (Value.ref (cl c) == Value.ref (cl c')) = false
          simpa using h1) h2
    | int => exact own _ (by simp [seven]) (by decide +kernel)
    | bool => exact own _ (by simp [seven]) (by decide +kernel)
    | str => exact own _ (by simp [seven]) (by decide +kernel)
    | tup => exact own _ (by simp [seven]) (by decide +kernel)
    | lst => exact own _ (by simp [seven]) (by decide +kernel)
    | dict => exact own _ (by simp [seven]) (by decide +kernel)
end PD
/-! The exception classes of a text: one check for all of them. -/
namespace PX
open PySem PySem.W PySem.Spec PyProof.Rows L2
def oexM (PE C : Addr) : List Value := .ref C :: (if C = PE then HandSPX.veTail else .ref PE :: HandSPX.veTail)
def oexB (K : Frag) (PE C : Addr) : Bool := match K.lookup C with
  | some ⟨.type "type", _, .cls cd, sl⟩ => (match sl.toList with
    | [_, _, _, _, some (.builtin n), _] => n == "ValueError.__new__" && cd.mro == oexM PE C && cd.hasDict && !cd.hasDel
    | _ => false)
  | _ => false
theorem tl_ve (PE C : Addr) : HandSPX.refsVE (oexM PE C).tail = true := by
  unfold oexM
  rw [List.tail_cons]
  split
  · decide
  · show HandSPX.refsVE HandSPX.veTail = true
    decide
theorem oexB_ok {K : Frag} {PE C : Addr} (h : oexB K PE C = true) : ∃ nm q N bs sn sub ab col dd s0 s1 s2 s3 s5, K.lookup C = some (excClassObj nm q C N bs (oexM PE C).tail true sn sub ab col dd s0 s1 s2 s3 s5 "ValueError.__new__") := by
  unfold oexB at h
  split at h
  · rename_i dd cd sl lk
    split at h
    · rename_i s0 s1 s2 s3 n s5 es
      simp only [Bool.and_eq_true, beq_iff_eq, Bool.not_eq_true'] at h
      obtain ⟨⟨⟨rfl, em⟩, eh⟩, ed⟩ := h
      cases cd with
      | mk nm bs mro ns qn hd sn sb ab col del =>
        dsimp only at em eh ed
        subst em eh ed
        have esl : sl = #[s0, s1, s2, s3, some (.builtin "ValueError.__new__"), s5] := by
          cases sl with
          | mk l =>
            simp only at es
            rw [es]
        subst esl
        exact ⟨nm, qn, ns, bs, sn, sb, ab, col, dd, s0, s1, s2, s3, s5, lk⟩
    · cases h
  · cases h
/-- what else a class must say -/
def xB (K : Frag) (C : Addr) : Bool :=
  decide (findIn K (.ref C) "__setattr__" = some (some (.builtin "object.__setattr__"))) && decide (subIn K (.ref C) (.type "BaseException") = some true) && decide (typeIn K (.ref C) = some (.type "type")) && keepIn K (.ref C) &&
  decide (findIn K (.ref C) "__getattribute__" = some (some (.builtin "BaseException.__getattribute__"))) && decide (findIn K (.ref C) "__getattr__" = some none) && hasDictIn K C && decide (findIn K (.ref C) "__class__" = some (some (.builtin "object.__class__"))) && decide (mroIn K C (.type "object") = some true)
def xAllB (K : Frag) (PE : Addr) (Cs : List Addr) : Bool := Cs.all fun C => oexB K PE C && xB K C
structure XCls (K : Frag) (PE C : Addr) : Prop where
  o : OexC K C
  e : specialIn K (.builtin "object.__class__") "__get__" = some (some (.builtin "getset_descriptor.__get__")) → takesIn K (.builtin "object.__class__") = some true → ExcC K C
  x : XfC K C
  m : ∃ cd, clsIn K C = some cd ∧ cd.mro = oexM PE C
theorem xAll_ok {K : Frag} {PE : Addr} {Cs : List Addr} (h : xAllB K PE Cs = true) : ∀ C ∈ Cs, XCls K PE C := fun C hC => by
  have h := List.all_eq_true.mp h C hC
  rw [Bool.and_eq_true] at h
  obtain ⟨h1, h2⟩ := h
  unfold xB at h2
  simp only [Bool.and_eq_true, decide_eq_true_eq] at h2
  obtain ⟨⟨⟨⟨⟨⟨⟨⟨a1, a2⟩, a3⟩, a4⟩, a5⟩, a6⟩, a7⟩, a8⟩, a9⟩ := h2
  obtain ⟨nm, q, N, bs, sn, sub, ab, col, dd, s0, s1, s2, s3, s5, lk⟩ := oexB_ok h1
  refine ⟨⟨⟨nm, q, N, bs, _, sn, sub, ab, col, dd, s0, s1, s2, s3, s5, lk, tl_ve PE C⟩, a1, a2, a3, a4⟩, fun g1 g2 => ⟨a5, a6, a2, a7, a8, g1, g2, a9⟩, ⟨a5, a6, a2, a7⟩, ?_⟩
  refine ⟨_, by unfold clsIn; rw [lk] <;> rfl, ?_⟩
  unfold oexM
  rfl
/-- isinstance of one of them, asked for one of them -/
theorem kit_own {K : Frag} {PE C D : Addr} (hC : XCls K PE C) (hD : XCls K PE D) : kitOne K (.ref C) (.ref D) = some (decide (C = D) || decide (D = PE)) := by
  unfold kitOne
  by_cases c : C = D
  · subst c
    rw [if_pos (by simp)]
    simp
  · rw [if_neg (by simpa using c)]
    obtain ⟨cd, e1, e2⟩ := hD.m
    obtain ⟨cd', e1', e2'⟩ := hC.m
    have k1 : ((clsIn K D).isSome && typeIn K (.ref D) == some (.type "type")) = true := by rw [e1, hD.o.tyC]; rfl
    show (if _ then subIn K (.ref C) (.ref D) else none) = _
    rw [if_pos k1]
    show mroIn K C (.ref D) = _
    unfold mroIn
    rw [e1', Option.bind_some, e2']
    have ne : (oexM PE C).isEmpty = false := rfl
    rw [ne, if_neg Bool.false_ne_true, decide_eq_false c, Bool.false_or]
    congr 1
    unfold oexM
    have n1 : ((Value.ref D) == .ref C) = false := by simpa using fun z => c z.symm
    by_cases c2 : C = PE
    · rw [if_pos c2, List.contains_cons, n1]
      have : D ≠ PE := fun z => c (by rw [c2, z])
      rw [decide_eq_false this]
      rfl
    · rw [if_neg c2, List.contains_cons, n1, List.contains_cons]
      by_cases c3 : D = PE
      · subst c3
        simp
      · have n2 : ((Value.ref D) == .ref PE) = false := by simpa using c3
        rw [n2, decide_eq_false c3]
        rfl
theorem kit_ve {K : Frag} {PE C : Addr} (hC : XCls K PE C) : kitOne K (.ref C) (.type "ValueError") = some true := by
  obtain ⟨cd, e1, e2⟩ := hC.m
  unfold kitOne
  show kitCls K (.ref C) (.type "ValueError") = some true
  unfold kitCls
  dsimp only
  rw [if_pos (by decide +kernel)]
  show mroIn K C (.type "ValueError") = _
  unfold mroIn
  rw [e1, Option.bind_some, e2]
  have ne : (oexM PE C).isEmpty = false := rfl
  rw [ne, if_neg Bool.false_ne_true]
  congr 1
  unfold oexM
  by_cases c2 : C = PE
  · rw [if_pos c2]
    rfl
  · rw [if_neg c2]
    rfl
/-- what a class with an own __init__ must say -/
def xIniB (K : Frag) (C fI : Addr) (f : Str) : Bool :=
  decide (findIn K (.ref C) "__init__" = some (some (.ref fI))) && decide (typeIn K (.ref fI) = some (.type "function")) && decide (ks_superIn K C C "__init__" = some (some (.builtin "ValueError.__init__"))) && decide (subIn K (.ref C) (.type "ValueError") = some true) &&
  decide (findIn K (.ref C) f = some none) && decide (mroIn K C (.ref C) = some true)
theorem xIni_ok {K : Frag} {C fI : Addr} {f : Str} (h : xIniB K C fI f = true) : (findIn K (.ref C) "__init__" = some (some (.ref fI)) ∧ typeIn K (.ref fI) = some (.type "function")) ∧ ks_superIn K C C "__init__" = some (some (.builtin "ValueError.__init__")) ∧ subIn K (.ref C) (.type "ValueError") = some true ∧ findIn K (.ref C) f = some none ∧ mroIn K C (.ref C) = some true := by
  unfold xIniB at h
  simp only [Bool.and_eq_true, decide_eq_true_eq] at h
  obtain ⟨⟨⟨⟨⟨a1, a2⟩, a3⟩, a4⟩, a5⟩, a6⟩ := h
  exact ⟨⟨a1, a2⟩, a3, a4, a5, a6⟩
end PX
namespace PX
open PySem
theorem getD_mem {l : List Addr} {c : Nat} (h : c < l.length) : l.getD c 0 ∈ l := by
  rw [List.getD_eq_getElem?_getD, List.getElem?_eq_getElem h]
  exact List.getElem_mem h
theorem getD_inj {l : List Addr} (nd : l.Nodup) {c c' : Nat} (h : c < l.length) (h' : c' < l.length) (e : l.getD c 0 = l.getD c' 0) : c = c' := by
  rw [List.getD_eq_getElem?_getD, List.getD_eq_getElem?_getD, List.getElem?_eq_getElem h, List.getElem?_eq_getElem h'] at e
  refine (List.getElem?_inj h nd).mp ?_
  rw [List.getElem?_eq_getElem h, List.getElem?_eq_getElem h']
  exact congrArg some e
/-- the answers for a target of the text's own -/
theorem own_ans {K : PySem.W.Frag} {cl : Nat → Addr} {n t : Nat} {cs : List Nat} (hx : ∀ c, c < n → XCls K (cl 500) (cl (c + 500))) (hn : ∀ c c', c < n → c' < n → cl (c + 500) = cl (c' + 500) → c = c') (ht : t < n) (h0 : 0 < n) (hcs : ∀ c, c < n → cs.contains c = (decide (c = t) || decide (t = 0))) :
    ∀ c, c < n → PySem.W.kitOne K (.ref (cl (c + 500))) (.ref (cl (t + 500))) = some (cs.contains c) := fun c hc => by
  rw [kit_own (hx c hc) (hx t ht), hcs c hc]
  have e1 : decide (cl (c + 500) = cl (t + 500)) = decide (c = t) := decide_eq_decide.mpr ⟨hn c t hc ht, fun z => by rw [z]⟩
  have e2 : decide (cl (t + 500) = cl 500) = decide (t = 0) := decide_eq_decide.mpr ⟨fun z => hn t 0 ht h0 (by rw [z]), fun z => by rw [z]⟩
  rw [e1, e2]
end PX
/-! What a def does, by encoded arguments; fractions. -/
namespace PD
open PySem L2
open Classical in
/-- what a def does with encoded arguments; nothing is said of others -/
noncomputable def dec {α : Type} (f : α → List Arg) (dom : α → Prop) (g : α → LR) : List Arg → LR := fun as => if h : ∃ a, dom a ∧ f a = as then g h.choose else .bad
theorem dec_eq {α : Type} {f : α → List Arg} {dom : α → Prop} {g : α → LR} (inj : ∀ a b, f a = f b → a = b) {a : α} (ha : dom a) : dec f dom g (f a) = g a := by
  have h : ∃ b, dom b ∧ f b = f a := ⟨a, ha, rfl⟩
  unfold dec
  rw [dif_pos h, inj _ _ h.choose_spec.2]
theorem dec_says {α : Type} {f : α → List Arg} {dom : α → Prop} {g : α → LR} {r : List Arg → Res D} {k : List Arg → Nat} (h : ∀ a, dom a → Says (r (f a)) (k (f a)) (g a)) (as : List Arg) : Says (r as) (k as) (dec f dom g as) := by
  unfold dec
  split
  · rename_i hh
    have := h _ hh.choose_spec.1
    rwa [hh.choose_spec.2] at this
  · trivial
theorem dec_len {α : Type} {f : α → List Arg} {dom : α → Prop} {g : α → LR} {n : Nat} (h : ∀ a, (f a).length = n) (as : List Arg) (hb : dec f dom g as ≠ .bad) : as.length = n := by
  unfold dec at hb
  split at hb
  · rename_i hh
    rw [← hh.choose_spec.2]
    exact h _
  · exact absurd rfl hb
/-! ### equalities of ints -/
theorem pyEqD_int (a b : Int) : pyEqD (.int a) (.int b) = some (a == b) := rfl
theorem pyEq_int (a b : Int) : pyEq (.int a) (.int b) = some (a == b) := rfl
/-! ### fractions -/
def fr (q : Rat) : P := .tup [.int q.num, .int q.den]
theorem fr_inj {p q : Rat} (h : fr p = fr q) : p = q := by
  simp only [fr, P.tup.injEq, List.cons.injEq, P.int.injEq, and_true, Int.natCast_inj] at h
  exact Rat.ext h.1 h.2
end PD
/-! Runs: what is used again and again. -/
namespace PD
open PySem (sizeLine PyData)
theorem atI_0 {α : Type} (a : α) (l : List α) : L2.atI (a :: l) 0 = some a := by simp [L2.atI, L2.ixN]
theorem atI_1 {α : Type} (a b : α) (l : List α) : L2.atI (a :: b :: l) 1 = some b := by
  have : (1 : Int) < (l.length : Int) + 1 + 1 := by omega
  simp [L2.atI, L2.ixN, this]
theorem callA_p {f : List Arg → LR} {ps : List P} {r : P} {S : Sto} (h : f (ps.map .p) = .ok (.p r) []) : callA f (ps.map .p) S = .ok (.p r) S := by
  unfold callA
  rw [args_p]
  dsimp only
  rw [boxes_p, if_pos ⟨List.nodup_nil, rfl⟩, h]
  rfl
theorem frz_p (S : Sto) : ∀ (ps : List P), frzL S (ps.map .p) = .ok ps S
  | [] => rfl
  | p :: ps => by
    show (frz S (.p p)).bind _ = _
    show (frzL S (ps.map .p)).bind _ = _
    rw [frz_p S ps]
    rfl
/-- a call with data alone -/
theorem call_p {Φ : Nat → List Arg → LR} {i : Nat} {l : IL} {dfl : List P} {ρ : List (Option D)} {S S' : Sto} {ps : List P} {r : P} (ha : evL Φ l ρ S = .ok (ps.map .p) S') (h : Φ i ((ps ++ dfl).map .p) = .ok (.p r) []) : ev Φ (.call true i dfl l) ρ S = .ok (.p r) S' := by
  simp only [ev, ha, Res.bind, if_true, frz_p]
  rw [← List.map_append]
  exact callA_p h
theorem exs_cons {Φ : Nat → List Arg → LR} {fuel : Nat} {s : IS} {b : IB} {ρ : List (Option D)} {S : Sto} : exs Φ fuel (.cons s b) ρ S = (ex Φ fuel s ρ S).andThen fun ρ S => exs Φ fuel b ρ S := rfl
theorem exs_nil {Φ : Nat → List Arg → LR} {fuel : Nat} {ρ : List (Option D)} {S : Sto} : exs Φ fuel .nil ρ S = .next ρ S := rfl
theorem log_of {n k : Nat} (h : n < 2 ^ k) (hk : 0 < k) : n.log2 < k := PySem.Flt.log2_lt_of hk h
theorem pow_mono {a b n : Nat} (h : n < 2 ^ a) (hab : a ≤ b) : n < 2 ^ b := Nat.lt_of_lt_of_le h (Nat.pow_le_pow_right (by omega) hab)
theorem callA_1 {f : List Arg → LR} {a r : P} {S : Sto} (h : f [.p a] = .ok (.p r) []) : callA f [D.p a] S = .ok (.p r) S := callA_p (ps := [a]) h
theorem callA_2 {f : List Arg → LR} {a b r : P} {S : Sto} (h : f [.p a, .p b] = .ok (.p r) []) : callA f [D.p a, D.p b] S = .ok (.p r) S := callA_p (ps := [a, b]) h
theorem callA_3 {f : List Arg → LR} {a b c r : P} {S : Sto} (h : f [.p a, .p b, .p c] = .ok (.p r) []) : callA f [D.p a, D.p b, D.p c] S = .ok (.p r) S := callA_p (ps := [a, b, c]) h
theorem ix0 (a b : P) : prim2 .ix (.tup [a, b]) (.int 0) = some a := atI_0 a [b]
theorem ix1 (a b : P) : prim2 .ix (.tup [a, b]) (.int 1) = some b := atI_1 a b []
theorem eq_int (a b : Int) : prim2 .eq (.int a) (.int b) = some (.bl (a == b)) := rfl
theorem ne_int (a b : Int) : prim2 .ne (.int a) (.int b) = some (.bl (!(a == b))) := rfl
theorem len2 (a b : P) : prim1 .len (.tup [a, b]) = some (.int 2) := rfl
theorem add_int (a b : Int) : prim2 .add (.int a) (.int b) = some (.int (a + b)) := rfl
theorem sub_int (a b : Int) : prim2 .sub (.int a) (.int b) = some (.int (a - b)) := rfl
theorem map_inj {α β : Type} {f : α → β} (hf : ∀ a b, f a = f b → a = b) : ∀ {l m : List α}, l.map f = m.map f → l = m
  | [], [], _ => rfl
  | [], _ :: _, h => by cases h
  | _ :: _, [], h => by cases h
  | a :: l, b :: m, h => by
    simp only [List.map_cons, List.cons.injEq] at h
    rw [hf _ _ h.1, map_inj hf h.2]
theorem turns_map {step : P → Sto → Res (Option P)} {f : P → P} : ∀ {items acc : List P} {S : Sto}, (∀ x ∈ items, step x S = .ok (some (f x)) S) → acc.length + items.length ≤ PySem.sizeLine → turns step items acc S = .ok (acc ++ items.map f) S
  | [], acc, S, _, _ => by simp [turns]
  | x :: items, acc, S, h, hl => by
    rw [List.length_cons] at hl
    simp only [turns, h x List.mem_cons_self, Res.bind]
    rw [if_pos (by omega), turns_map (fun y hy => h y (List.mem_cons_of_mem _ hy)) (by simp; omega)]
    simp
theorem view_p (S : Sto) (x : P) : view S (.p x) = some x := rfl
theorem runB_ret {Φ : Nat → List Arg → LR} {fuel : Nat} {b : IB} {n : Nat} {ds : List D} {S S' : Sto} {d : D} (h : exs Φ fuel b (ds.map some ++ List.replicate (n - ds.length) none) S = .ret d S') : runB Φ fuel b n ds S = .ok d S' := by
  unfold runB
  rw [h]
theorem turns_fm {α : Type} {step : P → Sto → Res (Option P)} {f : α → P} {g : α → Option P} : ∀ {items : List α} {acc : List P} {S : Sto}, (∀ x ∈ items, step (f x) S = .ok (g x) S) → acc.length + items.length ≤ PySem.sizeLine → turns step (items.map f) acc S = .ok (acc ++ items.filterMap g) S
  | [], acc, S, _, _ => by simp [turns]
  | x :: items, acc, S, h, hl => by
    rw [List.length_cons] at hl
    rw [List.map_cons, turns, h x List.mem_cons_self]
    simp only [Res.bind]
    cases e : g x with
    | none =>
      dsimp only
      rw [turns_fm (fun y hy => h y (List.mem_cons_of_mem _ hy)) (by omega), List.filterMap_cons_none e]
    | some y =>
      dsimp only
      rw [if_pos (by omega), turns_fm (fun y hy => h y (List.mem_cons_of_mem _ hy)) (by simp; omega), List.filterMap_cons_some e]
      simp
theorem two_le : 2 ≤ sizeLine := by simp [PySem.sizeLine_eq]
/-- (a, b) -/
theorem ev_two {Φ : Nat → List Arg → LR} {a b : IE} {ρ : List (Option D)} {S : Sto} {x y : P} (ha : ev Φ a ρ S = .ok (.p x) S) (hb : ev Φ b ρ S = .ok (.p y) S) : ev Φ (.tup (.cons a (.cons b .nil))) ρ S = .ok (.p (.tup [x, y])) S := by
  show (((ev Φ a ρ S).bind _).bind _) = _
  rw [ha]
  simp only [Res.bind, evL]
  rw [hb]
  simp only [Res.bind, frzL, frz]
  exact if_pos two_le
/-- a + b of ints -/
theorem ev_addi {Φ : Nat → List Arg → LR} {a b : IE} {ρ : List (Option D)} {S : Sto} {x y : Int} (ha : ev Φ a ρ S = .ok (.p (.int x)) S) (hb : ev Φ b ρ S = .ok (.p (.int y)) S) : ev Φ (.o2 .add a b) ρ S = .ok (.p (.int (x + y))) S := by
  show (ev Φ a ρ S).bind _ = _
  rw [ha]
  simp only [Res.bind]
  rw [hb]
  rfl
theorem ev_var {Φ : Nat → List Arg → LR} {i : Nat} {ρ : List (Option D)} {S : Sto} {d : D} (h : ρ[i]? = some (some d)) : ev Φ (.var i) ρ S = .ok d S := by simp [ev, h]
theorem fm_map {α β : Type} (f : α → β) (l : List α) : l.filterMap (fun x => some (f x)) = l.map f := by
  induction l with
  | nil => rfl
  | cons a l ih => rw [List.filterMap_cons_some (f := fun x => some (f x)) (b := f a) rfl, ih, List.map_cons]
theorem fm_filter {α : Type} (f : α → P) (c : α → Bool) (l : List α) : l.filterMap (fun x => if c x then some (f x) else none) = (l.filter c).map f := by
  induction l with
  | nil => rfl
  | cons a l ih =>
    cases e : c a with
    | true => rw [List.filterMap_cons_some (b := f a) (by simp [e]), ih, List.filter_cons_of_pos e, List.map_cons]
    | false => rw [List.filterMap_cons_none (by simp [e]), ih, List.filter_cons_of_neg (by simp [e])]
theorem mul_ok {i j : Int} (hi : i.natAbs < 2 ^ 400000) (hj : j.natAbs < 2 ^ 400000) : prim2 .mul (.int i) (.int j) = some (.int (i * j)) := by
  have h1 := log_of hi (by omega)
  have h2 := log_of hj (by omega)
  simp only [prim2]
  rw [if_pos (by omega)]
theorem small_ok {i : Int} (h : i.natAbs < 2 ^ 64) : i.natAbs < 2 ^ 400000 := Nat.lt_of_lt_of_le h (Nat.pow_le_pow_right (by omega) (by omega))
theorem mod_ok {i j : Int} (hj : 0 < j) : prim2 .mod (.int i) (.int j) = some (.int (i % j)) := by
  simp only [prim2]
  rw [if_pos hj]
theorem div_ok {i j : Int} (hj : 0 < j) (h : j.natAbs < 2 ^ 64) : prim2 .fdiv (.int i) (.int j) = some (.int (i / j)) := by
  simp only [prim2]
  rw [if_pos ⟨hj, Nat.lt_of_lt_of_le (log_of h (by omega)) (by omega)⟩]
theorem ex_for {Φ : Nat → List Arg → LR} {fuel : Nat} {tg : Tg} {src : Src} {b : IB} {ρ : List (Option D)} {S S' : Sto} {items : List P} (h : evS Φ src ρ S = .ok items S') : ex Φ fuel (.for_ tg src b) ρ S = forO (fun x ρ S => match setTg tg x ρ with
    | some ρ => exs Φ fuel b ρ S
    | none => .bad) items ρ S' := by
  simp only [ex, h, Res.out] <;> rfl
/-- a comprehension over pairs -/
theorem ev_lcs {Φ : Nat → List Arg → LR} {src : Src} {ρ : List (Option D)} {S : Sto} {α : Type} {f : α → P} {r : List α} (h : evS Φ src ρ S = .ok (r.map f) S) {own : List Nat} {elt : IE} {tg : Tg} {cond : IT} {g : α → Option P}
    (hs : ∀ x ∈ r, stepL own tg (evT Φ cond) (ev Φ elt) ρ (f x) S = .ok (g x) S) (hl : r.length ≤ 1000) :
    ev Φ (.lc false own elt tg src cond) ρ S = .ok (.p (.lst (r.filterMap g))) S := by
  show (evS Φ src ρ S).bind _ = _
  rw [h]
  simp only [Res.bind]
  rw [turns_fm hs (by simp [PySem.sizeLine_eq]; omega)]
  simp [calm, boxIf, cont, optR]
theorem ev_mut {Φ : Nat → List Arg → LR} {o a : IE} {ρ : List (Option D)} {S : Sto} {n : Nat} {l m : List P} (ho : ev Φ o ρ S = .ok (.box n) S) (hn : S[n]? = some (some (.lst l))) (ha : ev Φ a ρ S = .ok (.p (.lst m)) S) (hl : l.length + m.length ≤ sizeLine) :
    ev Φ (.mut .extend o a) ρ S = .ok (.p .non) (S.set n (some (.lst (l ++ m)))) := by
  have mo : mutO .extend (.lst l) (.lst m) = some (.lst (l ++ m)) := by
    show (if _ then some (O.lst _) else none) = _
    rw [if_pos hl]
  have il : isLst S (.box n) = true := by simp [isLst, hn]
  simp only [ev, ho, Res.bind, il, ha, view_p, optR, hn, mo]
  simp
theorem ev_o2 {Φ : Nat → List Arg → LR} {o : Op2} {a b : IE} {ρ : List (Option D)} {S : Sto} {x y z : P} (ha : ev Φ a ρ S = .ok (.p x) S) (hb : ev Φ b ρ S = .ok (.p y) S) (h : prim2 o x y = some z) : ev Φ (.o2 o a b) ρ S = .ok (.p z) S := by
  simp only [ev, ha, hb, Res.bind, view_p, Option.bind_some, h, Option.map_some, optR]
theorem ev_c2 {Φ : Nat → List Arg → LR} {i : Nat} {a b : IE} {ρ : List (Option D)} {S : Sto} {x y z : P} (ha : ev Φ a ρ S = .ok (.p x) S) (hb : ev Φ b ρ S = .ok (.p y) S) (h : ∀ S, callA (Φ i) [D.p x, D.p y] S = .ok (.p z) S) : ev Φ (.call true i [] (.cons a (.cons b .nil))) ρ S = .ok (.p z) S := by
  simp only [ev, evL, ha, hb, Res.bind, if_true, frzL, frz, List.map_cons, List.map_nil, List.append_nil]
  exact h S
theorem ev_o1 {Φ : Nat → List Arg → LR} {o : Op1} {a : IE} {ρ : List (Option D)} {S : Sto} {x z : P} (ha : ev Φ a ρ S = .ok (.p x) S) (h : prim1 o x = some z) : ev Φ (.o1 o a) ρ S = .ok (.p z) S := by
  simp only [ev, ha, Res.bind, view_p, Option.bind_some, h, Option.map_some, optR]
theorem ev_or1 {Φ : Nat → List Arg → LR} {a b : IE} {ρ : List (Option D)} {S : Sto} (ha : ev Φ a ρ S = .ok (.p (.bl true)) S) : ev Φ (.or a b) ρ S = .ok (.p (.bl true)) S := by
  simp only [ev, ha, Res.bind]
theorem ev_or0 {Φ : Nat → List Arg → LR} {a b : IE} {ρ : List (Option D)} {S : Sto} (ha : ev Φ a ρ S = .ok (.p (.bl false)) S) : ev Φ (.or a b) ρ S = ev Φ b ρ S := by
  simp only [ev, ha, Res.bind]
theorem evT_p {Φ : Nat → List Arg → LR} {a : IE} {ρ : List (Option D)} {S : Sto} {b : Bool} (ha : ev Φ a ρ S = .ok (.p (.bl b)) S) : evT Φ (.tr a) ρ S = .ok b S := by
  simp only [evT, ha, Res.bind, view_p, Option.bind_some, truth, optR]
theorem evT_or0 {Φ : Nat → List Arg → LR} {t u : IT} {ρ : List (Option D)} {S : Sto} {r : Res Bool} (ht : evT Φ t ρ S = .ok false S) (hu : evT Φ u ρ S = r) : evT Φ (.or t u) ρ S = r := by
  simp only [evT, ht, Res.bind, Bool.false_eq_true, if_false, hu]
theorem ex_if0 {Φ : Nat → List Arg → LR} {fuel : Nat} {c : IT} {a : IB} {ρ : List (Option D)} {S : Sto} (h : evT Φ c ρ S = .ok false S) : ex Φ fuel (.iff c a .nil) ρ S = .next ρ S := by
  simp only [ex, h, Res.out, Bool.false_eq_true, if_false, exs]
theorem ev_c2s {Φ : Nat → List Arg → LR} {i : Nat} {a b : IE} {ρ : List (Option D)} {S S1 S2 : Sto} {x y z : P} (ha : ev Φ a ρ S = .ok (.p x) S1) (hb : ev Φ b ρ S1 = .ok (.p y) S2) (h : callA (Φ i) [D.p x, D.p y] S2 = .ok (.p z) S2) : ev Φ (.call true i [] (.cons a (.cons b .nil))) ρ S = .ok (.p z) S2 := by
  simp only [ev, evL, ha, hb, Res.bind, if_true, frzL, frz, List.map_cons, List.map_nil, List.append_nil]
  exact h
theorem ev_mapp {Φ : Nat → List Arg → LR} {o a : IE} {ρ : List (Option D)} {S S' : Sto} {n : Nat} {l l' : List P} {x : P} (ho : ev Φ o ρ S = .ok (.box n) S) (hn : S[n]? = some (some (.lst l'))) (ha : ev Φ a ρ S = .ok (.p x) S') (hn' : S'[n]? = some (some (.lst l))) (hl : l.length < sizeLine) :
    ev Φ (.mut .append o a) ρ S = .ok (.p .non) (S'.set n (some (.lst (l ++ [x])))) := by
  have mo : mutO .append (.lst l) x = some (.lst (l ++ [x])) := by
    show (if _ then some (O.lst _) else none) = _
    rw [if_pos hl]
  have il : isLst S (.box n) = true := by simp [isLst, hn]
  simp only [ev, ho, Res.bind, il, ha, frz, hn', mo]
  simp
theorem toPDs_map {α : Type} {f : α → P} {g : α → PyData} (h : ∀ a, toPD (f a) = some (g a)) : ∀ l : List α, toPDs (l.map f) = some (l.map g)
  | [] => rfl
  | a :: l => by
    show (match toPD (f a), toPDs (l.map f) with
      | some d, some ds => some (d :: ds)
      | _, _ => none) = _
    rw [h, toPDs_map h l]
    rfl
theorem lay_map {α : Type} {g : α → PyData} (h : ∀ a, PyData.canLay0 (g a) = true) : ∀ l : List α, PyData.canLayAll0 (l.map g) = true
  | [] => rfl
  | a :: l => by
    show (PyData.canLay0 (g a) && PyData.canLayAll0 (l.map g)) = true
    rw [h, lay_map h l]
    rfl
theorem depth_map {α : Type} {g : α → PyData} {n : Nat} (h : ∀ a, PyData.depth (g a) ≤ n) : ∀ l : List α, PyData.depthAll (l.map g) ≤ n
  | [] => Nat.zero_le _
  | a :: l => by
    show max (PyData.depth (g a)) (PyData.depthAll (l.map g)) ≤ n
    have := h a
    have := depth_map h l
    omega
theorem eqvAll_map {α : Type} {g : α → PyData} (h : ∀ a, PyData.eqv (g a) (g a) = true) : ∀ l : List α, PyData.eqvAll (l.map g) (l.map g) = true
  | [] => rfl
  | a :: l => by
    show (PyData.eqv (g a) (g a) && PyData.eqvAll (l.map g) (l.map g)) = true
    rw [h, eqvAll_map h l]
    rfl
theorem data_lst {α : Type} {f : α → P} {g : α → PyData} (h : ∀ a, toPD (f a) = some (g a)) (h1 : ∀ a, PyData.canLay0 (g a) = true) (h2 : ∀ a, PyData.depth (g a) ≤ 5) (l : List α) : dataOf (.lst (l.map f)) = some (.list (l.map g)) := by
  unfold dataOf
  have e : toPD (.lst (l.map f)) = some (.list (l.map g)) := by
    show (toPDs (l.map f)).map PyData.list = _
    rw [toPDs_map h l]
    rfl
  rw [e]
  dsimp only
  rw [if_pos]
  show (PyData.canLayAll0 (l.map g) && decide (PyData.depthAll (l.map g) + 1 ≤ 64)) = true
  have := depth_map h2 l
  rw [lay_map h1 l, decide_eq_true (by omega)]
  rfl
theorem eq_lst {α : Type} {f : α → P} {g : α → PyData} (h : ∀ a, toPD (f a) = some (g a)) (h1 : ∀ a, PyData.canLay0 (g a) = true) (h2 : ∀ a, PyData.depth (g a) ≤ 5) (h3 : ∀ a, PyData.eqv (g a) (g a) = true) (l : List α) : prim2 .eq (.lst (l.map f)) (.lst (l.map f)) = some (.bl true) ∧ prim2 .ne (.lst (l.map f)) (.lst (l.map f)) = some (.bl false) := by
  have e := data_lst h h1 h2 l
  have r : PyData.eqv (.list (l.map g)) (.list (l.map g)) = true := eqvAll_map h3 l
  constructor
  · show ((match dataOf (.lst (l.map f)), dataOf (.lst (l.map f)) with
      | some d, some e => some (PyData.eqv d e)
      | _, _ => none).map P.bl) = _
    rw [e]
    dsimp only
    rw [r]
    rfl
  · show ((match dataOf (.lst (l.map f)), dataOf (.lst (l.map f)) with
      | some d, some e => some (PyData.eqv d e)
      | _, _ => none).map fun r => P.bl (!r)) = _
    rw [e]
    dsimp only
    rw [r]
    rfl
theorem eq_il (l : List Int) : prim2 .eq (.lst (l.map .int)) (.lst (l.map .int)) = some (.bl true) := (eq_lst (g := PyData.int) (fun _ => rfl) (fun _ => rfl) (fun x => Nat.zero_le _) (fun a => by show (a == a) = true; simp) l).1
theorem ev_c1 {Φ : Nat → List Arg → LR} {i : Nat} {a : IE} {ρ : List (Option D)} {S : Sto} {x z : P} (ha : ev Φ a ρ S = .ok (.p x) S) (h : ∀ S, callA (Φ i) [D.p x] S = .ok (.p z) S) : ev Φ (.call true i [] (.cons a .nil)) ρ S = .ok (.p z) S := by
  simp only [ev, evL, ha, Res.bind, if_true, frzL, frz, List.map_cons, List.map_nil, List.append_nil]
  exact h S
theorem ev_and1 {Φ : Nat → List Arg → LR} {a b : IE} {ρ : List (Option D)} {S : Sto} (ha : ev Φ a ρ S = .ok (.p (.bl true)) S) : ev Φ (.and a b) ρ S = ev Φ b ρ S := by
  simp only [ev, ha, Res.bind]
theorem ev_rev {Φ : Nat → List Arg → LR} {v : Nat} {ρ : List (Option D)} {S : Sto} {l : List P} (h : ρ[v]? = some (some (.p (.lst l)))) : ev Φ (.o1 .tuple (.o1 .rev (.var v))) ρ S = .ok (.p (.tup l.reverse)) S :=
  ev_o1 (ev_o1 (ev_var h) (show prim1 .rev (.lst l) = some (.lst l.reverse) from rfl)) rfl
theorem step_ok {Φ : Nat → List Arg → LR} {own : List Nat} {tg : Tg} {cond : IT} {elt : IE} {ρ ρ' : List (Option D)} {S : Sto} {x y : P} {b : Bool} (e : setTg tg x (wipeR ρ own) = some ρ') (hc : evT Φ cond ρ' S = .ok b S) (he : b = true → ev Φ elt ρ' S = .ok (.p y) S) : stepL own tg (evT Φ cond) (ev Φ elt) ρ x S = .ok (if b = true then some y else none) S := by
  unfold stepL
  rw [e]
  dsimp only
  rw [hc]
  cases b with
  | true =>
    simp only [Res.bind, if_true]
    rw [he rfl]
    rfl
  | false => rfl
theorem ev_tt {Φ : Nat → List Arg → LR} {ρ : List (Option D)} {S : Sto} : evT Φ .tt ρ S = .ok true S := rfl
theorem ev_one {Φ : Nat → List Arg → LR} {a : IE} {ρ : List (Option D)} {S : Sto} {x : P} (ha : ev Φ a ρ S = .ok (.p x) S) : ev Φ (.lst false (.cons a .nil)) ρ S = .ok (.p (.lst [x])) S := by
  show (((ev Φ a ρ S).bind _).bind _) = _
  rw [ha]
  simp only [Res.bind, evL, frzL, frz]
  rw [if_pos (by have := two_le; simp; omega)]
  rfl
theorem turns_one {step : P → Sto → Res (Option P)} {x y : P} {r acc : List P} {S S' : Sto} (h : step x S = .ok (some y) S') (hl : acc.length < sizeLine) : turns step (x :: r) acc S = turns step r (acc ++ [y]) S' := by
  rw [turns, h]
  simp only [Res.bind]
  rw [if_pos hl]
theorem evT_n {Φ : Nat → List Arg → LR} {a : IE} {ρ : List (Option D)} {S : Sto} {b : Bool} (ha : ev Φ a ρ S = .ok (.p (.bl b)) S) : evT Φ (.not (.tr a)) ρ S = .ok (!b) S := by
  have := evT_p ha
  simp only [evT] at this ⊢
  rw [this]
  rfl
theorem ev_o2s {Φ : Nat → List Arg → LR} {o : Op2} {a b : IE} {ρ : List (Option D)} {S S1 S2 : Sto} {x y z : P} (ha : ev Φ a ρ S = .ok (.p x) S1) (hb : ev Φ b ρ S1 = .ok (.p y) S2) (h : prim2 o x y = some z) : ev Φ (.o2 o a b) ρ S = .ok (.p z) S2 := by
  simp only [ev, ha, hb, Res.bind, view_p, Option.bind_some, h, Option.map_some, optR]
theorem ev_l2 {Φ : Nat → List Arg → LR} {a b : IE} {ρ : List (Option D)} {S : Sto} {x y : P} (ha : ev Φ a ρ S = .ok (.p x) S) (hb : ev Φ b ρ S = .ok (.p y) S) : ev Φ (.lst false (.cons a (.cons b .nil))) ρ S = .ok (.p (.lst [x, y])) S := by
  simp only [ev, evL, ha, hb, Res.bind, frzL, frz]
  rw [if_pos (by have := two_le; simp; omega)]
  rfl
theorem ev_lcg {Φ : Nat → List Arg → LR} {own : List Nat} {elt : IE} {tg : Tg} {src : Src} {cond : IT} {ρ : List (Option D)} {S S1 S2 : Sto} {items l : List P} (h : evS Φ src ρ S = .ok items S1) (ht : turns (stepL own tg (evT Φ cond) (ev Φ elt) ρ) items [] S1 = .ok l S2) : ev Φ (.lc false own elt tg src cond) ρ S = .ok (.p (.lst l)) S2 := by
  simp only [ev, h, Res.bind, ht, calm, boxIf, cont, Option.map_some, optR, Bool.false_eq_true, if_false]
theorem fls_inj {a b : List Int} (h : (P.fls (a.map .int)) = .fls (b.map .int)) : a = b := by
  simp only [P.fls.injEq] at h
  exact map_inj (fun x y hxy => by simpa using hxy) h
theorem ix_int {l : List Int} {i : Int} (h0 : 0 ≤ i) (h1 : i < l.length) : ∃ q : Int, prim2 .ix (.lst (l.map .int)) (.int i) = some (.int q) := by
  have hn : i.toNat < l.length := by omega
  refine ⟨l[i.toNat], ?_⟩
  show L2.atI (l.map P.int) i = _
  unfold L2.atI L2.ixN
  rw [List.length_map, if_pos h0, if_pos h1]
  simp [hn]
theorem data_fls (ns : List Int) : dataOf (.fls (ns.map .int)) = some (.list (ns.map .int)) := by
  have e : dataOf (.fls (ns.map .int)) = dataOf (.lst (ns.map .int)) := rfl
  rw [e]
  exact data_lst (g := PyData.int) (fun _ => rfl) (fun _ => rfl) (fun x => Nat.zero_le _) ns
theorem eq_nil (ns : List Int) : ∃ b, prim2 .eq (.fls (ns.map .int)) (.lst []) = some (.bl b) := by
  refine ⟨PyData.eqv (.list (ns.map .int)) (.list []), ?_⟩
  show ((match dataOf (.fls (ns.map .int)), dataOf (.lst []) with
    | some d, some e => some (PyData.eqv d e)
    | _, _ => none).map P.bl) = _
  rw [data_fls]
  rfl
theorem ev_rng {Φ : Nat → List Arg → LR} {e : IE} {ρ : List (Option D)} {S S' : Sto} {i : Int} (he : ev Φ e ρ S = .ok (.p (.int i)) S') (hs : small62 i = true) : evS Φ (.rng1 e) ρ S = .ok (rng 0 i) S' := by
  simp only [evS, he, Res.bind, hs, if_true]
theorem mul_lst {l : List P} {k : Int} (h : 0 ≤ k ∧ k < 2 ^ 63 ∧ l.length * k.toNat ≤ sizeLine) : prim2 .mul (.lst l) (.int k) = some (.lst (List.replicate k.toNat l).flatten) := by
  simp only [prim2]
  rw [if_pos ⟨by omega, h.2.1, h.2.2⟩]
theorem law_zs (b : Bool) : ∃ zs : List Int, zs.length ≤ 1 ∧ prim2 .mul (.lst [.int 0]) (.int (if b then 1 else 0)) = some (.lst (zs.map .int)) := by
  have one : 1 ≤ sizeLine := by have := two_le; omega
  cases b
  · refine ⟨[], by simp, ?_⟩
    exact mul_lst (l := [.int 0]) (k := 0) ⟨by decide, by decide, by simp⟩
  · refine ⟨[0], by simp, ?_⟩
    exact mul_lst (l := [.int 0]) (k := 1) ⟨by decide, by decide, by simpa using one⟩
theorem law_sl (Φ : Nat → List Arg → LR) (ns : List Int) (h : ns.length ≤ 63) : ∃ ms : List Int, ms.length ≤ 63 ∧ ev Φ (.slice (.var 0) false true (.cst .non) (.cst (.int 8))) [some (.p (.fls (ns.map .int))), none, none] [] = .ok (.p (.lst (ms.map .int))) [] := by
  refine ⟨(ns.drop (HT.sIx (ns.map P.int).length 0 none)).take (HT.sIx (ns.map P.int).length (ns.map P.int).length (some 8) - HT.sIx (ns.map P.int).length 0 none), ?_, ?_⟩
  · rw [List.length_take, List.length_drop]
    omega
  · rw [List.map_take, List.map_drop]
    rfl
theorem next_then {ρ : List (Option D)} {S : Sto} {f : List (Option D) → Sto → Out} : (Out.next ρ S).andThen f = f ρ S := rfl
end PD
/-! The law's bag. -/
namespace PD
open PySem (sizeLine PyData)
def bagP (c k : Int) : O := .lst [.int c, .int k]
theorem bagP_inj {c k c' k' : Int} (h : bagP c k = bagP c' k') : c = c' ∧ k = k' := by simpa [bagP] using h
def B_bag : IB := (.cons (.iff (.tr (.o2 .lt (.var 0) (.cst (.int 0))))
      (.cons (.ret false (.lst true (.cons (.o1 .neg (.var 0)) (.cons (.o2 .add (.o2 .mul (.cst (.int 37)) (.var 1)) (.cst (.int 18))) .nil))))
      .nil)
      .nil)
      (.cons (.ret false (.lst true (.cons (.var 0) (.cons (.o2 .mul (.cst (.int 37)) (.var 1)) .nil))))
      .nil))
noncomputable def F_bag : List Arg → LR := dec (α := Int × Int) (fun x => [.p (.int x.1), .p (.int x.2)]) (fun x => x.2.natAbs < 2 ^ 50) (fun x => .ok (.o (bagP (if x.1 < 0 then -x.1 else x.1) (if x.1 < 0 then 37 * x.2 + 18 else 37 * x.2))) [])
theorem F_bag_eq {c k : Int} (h : k.natAbs < 2 ^ 50) : F_bag [.p (.int c), .p (.int k)] = .ok (.o (bagP (if c < 0 then -c else c) (if c < 0 then 37 * k + 18 else 37 * k))) [] := dec_eq (a := (c, k)) (fun a b h => by simpa [Prod.ext_iff] using h) h
theorem says_bag (Φ : Nat → List Arg → LR) (fuel : Nat) : ∀ as, Says (runB Φ fuel B_bag 2 (numA 0 as) (boxesA as)) (boxesA as).length (F_bag as) := dec_says fun ⟨c, k⟩ h => by
  have h : k.natAbs < 2 ^ 50 := h
  have m := mul_ok (i := 37) (j := k) (by exact small_ok (by decide)) (small_ok (by omega))
  by_cases hc : c < 0
  · have lt : prim2 .lt (.int c) (.int 0) = some (.bl true) := by simp [prim2, hc]
    refine ⟨0, [some (bagP (-c) (37 * k + 18))], ?_, rfl, rfl, Nat.le_refl _, by simp [hc]⟩
    have ad : prim2 .add (.int (37 * k)) (.int 18) = some (.int (37 * k + 18)) := rfl
    have ng : prim1 .neg (.int c) = some (.int (-c)) := rfl
    simp [B_bag, runB, exs, ex, ev, evT, evL, Res.bind, Res.out, Out.andThen, optR, view_p, numA, boxesA, frz, frzL, truth, lt, m, ad, ng, boxIf, two_le, bagP]
  · have lt : prim2 .lt (.int c) (.int 0) = some (.bl false) := by simp [prim2, hc]
    refine ⟨0, [some (bagP c (37 * k))], ?_, rfl, rfl, Nat.le_refl _, by simp [hc]⟩
    simp [B_bag, runB, exs, ex, ev, evT, evL, Res.bind, Res.out, Out.andThen, optR, view_p, numA, boxesA, frz, frzL, truth, lt, m, boxIf, two_le, bagP]
def drawX (c k : Int) : Int :=
  let a := (c % 2147483629 + 104729 * k + 1) % 2147483587
  let b := (a * a) % 2147483587
  let d := (b + 40692 * k) % 2147483563
  (d * d) % 2147483563
def drawD (c k m : Int) : Int := if 10 ^ 18 ≤ c then c % m else (drawX c (k + 1) / 8) % m
def drawC (c m : Int) : Int := if 10 ^ 18 ≤ c then c / m else c
def B_draw : IB := (.cons (.ixaug .add (.var 0) (.cst (.int 1)) (.cst (.int 1)))
      (.cons (.iff (.tr (.o2 .ge (.o2 .ix (.var 0) (.cst (.int 0))) (.o2 .pow (.cst (.int 10)) (.cst (.int 18)))))
      (.cons (.set (.nm 3) (.o2 .mod (.o1 .int (.o2 .ix (.var 0) (.cst (.int 0)))) (.var 1)))
      (.cons (.ixset (.var 0) (.cst (.int 0)) (.o2 .fdiv (.o2 .ix (.var 0) (.cst (.int 0))) (.var 1)))
      (.cons (.ret true (.var 3))
      .nil)))
      .nil)
      (.cons (.set (.nm 2) (.o2 .mod (.o1 .int (.o2 .add (.o2 .add (.o2 .mod (.o1 .int (.o2 .ix (.var 0) (.cst (.int 0)))) (.cst (.int 2147483629))) (.o2 .mul (.cst (.int 104729)) (.o2 .ix (.var 0) (.cst (.int 1))))) (.cst (.int 1)))) (.cst (.int 2147483587))))
      (.cons (.set (.nm 2) (.o2 .mod (.o1 .int (.o2 .mul (.var 2) (.var 2))) (.cst (.int 2147483587))))
      (.cons (.set (.nm 2) (.o2 .mod (.o1 .int (.o2 .add (.var 2) (.o2 .mul (.cst (.int 40692)) (.o2 .ix (.var 0) (.cst (.int 1)))))) (.cst (.int 2147483563))))
      (.cons (.set (.nm 2) (.o2 .mod (.o1 .int (.o2 .mul (.var 2) (.var 2))) (.cst (.int 2147483563))))
      (.cons (.ret true (.o2 .mod (.o1 .int (.o2 .fdiv (.var 2) (.cst (.int 8)))) (.var 1)))
      .nil)))))))
noncomputable def F_draw : List Arg → LR := dec (α := Int × Int × Int) (fun x => [.o (bagP x.1 x.2.1), .p (.int x.2.2)]) (fun x => x.2.1.natAbs < 2 ^ 50 ∧ 0 < x.2.2 ∧ x.2.2.natAbs < 2 ^ 60) (fun x => .ok (.p (.int (drawD x.1 x.2.1 x.2.2))) [bagP (drawC x.1 x.2.2) (x.2.1 + 1)])
theorem F_draw_eq {c k m : Int} (h : k.natAbs < 2 ^ 50 ∧ 0 < m ∧ m.natAbs < 2 ^ 60) : F_draw [.o (bagP c k), .p (.int m)] = .ok (.p (.int (drawD c k m))) [bagP (drawC c m) (k + 1)] := dec_eq (a := (c, k, m)) (fun a b h => by
  simp only [List.cons.injEq, Arg.o.injEq, Arg.p.injEq, P.int.injEq, and_true] at h
  exact Prod.ext (bagP_inj h.1).1 (Prod.ext (bagP_inj h.1).2 h.2)) h
theorem bag_0 (c k : Int) : prim2 .ix (.lst [.int c, .int k]) (.int 0) = some (.int c) := rfl
theorem bag_1 (c k : Int) : prim2 .ix (.lst [.int c, .int k]) (.int 1) = some (.int k) := rfl
theorem int_i (i : Int) : prim1 .int (.int i) = some (.int i) := rfl
theorem add_i (i j : Int) : prim2 .add (.int i) (.int j) = some (.int (i + j)) := rfl
theorem draw_range {c k m : Int} (h : 0 < m) : 0 ≤ drawD c k m ∧ drawD c k m < m := by
  unfold drawD
  split
  · exact ⟨Int.emod_nonneg _ (by omega), Int.emod_lt_of_pos _ h⟩
  · exact ⟨Int.emod_nonneg _ (by omega), Int.emod_lt_of_pos _ h⟩
theorem says_draw (Φ : Nat → List Arg → LR) (fuel : Nat) : ∀ as, Says (runB Φ fuel B_draw 4 (numA 0 as) (boxesA as)) (boxesA as).length (F_draw as) := dec_says fun ⟨c, k, m⟩ h => by
  obtain ⟨h1, h2, h3⟩ : k.natAbs < 2 ^ 50 ∧ 0 < m ∧ m.natAbs < 2 ^ 60 := h
  refine ⟨[some (bagP (drawC c m) (k + 1))], runB_ret ?_, rfl, rfl⟩
  show exs Φ fuel B_draw [some (.box 0), some (.p (.int m)), none, none] [some (bagP c k)] = _
  have vb : ∀ c k, view [some (bagP c k)] (.box 0) = some (.lst [.int c, .int k]) := fun _ _ => rfl
  have s1 : ex Φ fuel (.ixaug .add (.var 0) (.cst (.int 1)) (.cst (.int 1))) [some (.box 0), some (.p (.int m)), none, none] [some (bagP c k)] = .next [some (.box 0), some (.p (.int m)), none, none] [some (bagP c (k + 1))] := rfl
  have pw : prim2 .pow (.int 10) (.int 18) = some (.int (10 ^ 18)) := by
    simp only [prim2]
    rw [if_pos (by decide)]
    rfl
  have md := mod_ok (i := c) h2
  rw [B_draw, exs_cons, s1]
  dsimp only [Out.andThen]
  rw [exs_cons]
  by_cases hc : 10 ^ 18 ≤ c
  · have ge : prim2 .ge (.int c) (.int (10 ^ 18)) = some (.bl true) := by
      show some (P.bl (decide ((10 : Int) ^ 18 ≤ c))) = _
      rw [decide_eq_true hc]
    have dv := div_ok (i := c) h2 (by omega)
    have st : setO (bagP c (k + 1)) (.int 0) (.int (c / m)) = some (bagP (c / m) (k + 1)) := rfl
    have t : evT Φ (.tr (.o2 .ge (.o2 .ix (.var 0) (.cst (.int 0))) (.o2 .pow (.cst (.int 10)) (.cst (.int 18))))) [some (.box 0), some (.p (.int m)), none, none] [some (bagP c (k + 1))] = .ok true [some (bagP c (k + 1))] := by
      simp only [evT, ev, List.getElem?_cons_zero, Res.bind, vb, view_p, Option.bind_some, bag_0, pw, Option.map_some, optR, ge, truth]
    simp only [ex, t, Res.out, if_true, exs, ev, List.getElem?_cons_succ, List.getElem?_cons_zero, Res.bind, vb, view_p, Option.bind_some, bag_0, int_i, md, dv, Option.map_some, optR, frz, Out.andThen, List.set_cons_succ, List.set_cons_zero, st]
    rw [drawD, drawC, if_pos hc, if_pos hc]
  · have ge : prim2 .ge (.int c) (.int (10 ^ 18)) = some (.bl false) := by
      show some (P.bl (decide ((10 : Int) ^ 18 ≤ c))) = _
      rw [decide_eq_false hc]
    have t : evT Φ (.tr (.o2 .ge (.o2 .ix (.var 0) (.cst (.int 0))) (.o2 .pow (.cst (.int 10)) (.cst (.int 18))))) [some (.box 0), some (.p (.int m)), none, none] [some (bagP c (k + 1))] = .ok false [some (bagP c (k + 1))] := by
      simp only [evT, ev, List.getElem?_cons_zero, Res.bind, vb, view_p, Option.bind_some, bag_0, pw, Option.map_some, optR, ge, truth]
    have m1 := mod_ok (i := c) (j := 2147483629) (by decide)
    have m2 := mul_ok (i := 104729) (j := k + 1) (small_ok (by decide)) (small_ok (by omega))
    have m3 := mod_ok (i := c % 2147483629 + 104729 * (k + 1) + 1) (j := 2147483587) (by decide)
    generalize ha : (c % 2147483629 + 104729 * (k + 1) + 1) % 2147483587 = a at m3
    have ha' : 0 ≤ a ∧ a < 2147483587 := by omega
    have m4 := mul_ok (i := a) (j := a) (small_ok (by omega)) (small_ok (by omega))
    have m5 := mod_ok (i := a * a) (j := 2147483587) (by decide)
    have m6 := mul_ok (i := 40692) (j := k + 1) (small_ok (by decide)) (small_ok (by omega))
    have m7 := mod_ok (i := a * a % 2147483587 + 40692 * (k + 1)) (j := 2147483563) (by decide)
    generalize hd : (a * a % 2147483587 + 40692 * (k + 1)) % 2147483563 = d at m7
    have hd' : 0 ≤ d ∧ d < 2147483563 := by omega
    have m8 := mul_ok (i := d) (j := d) (small_ok (by omega)) (small_ok (by omega))
    have m9 := mod_ok (i := d * d) (j := 2147483563) (by decide)
    have m10 := div_ok (i := d * d % 2147483563) (j := 8) (by decide) (by decide)
    have m11 := mod_ok (i := d * d % 2147483563 / 8) h2
    have ex1 : drawX c (k + 1) = d * d % 2147483563 := by
      unfold drawX
      dsimp only
      rw [ha, hd]
    simp only [ex, t, Res.out, if_false, Bool.false_eq_true, exs, ev, List.getElem?_cons_succ, List.getElem?_cons_zero, Res.bind, vb, view_p, Option.bind_some, bag_0, bag_1, int_i, add_i, m1, m2, m3, m4, m5, m6, m7, m8, m9, m10, m11, Option.map_some, optR, frz, Out.andThen, List.set_cons_succ, List.set_cons_zero]
    rw [drawD, drawC, if_neg hc, if_neg hc, ex1]
    simp only [if_true]
theorem ev_draw {Φ : Nat → List Arg → LR} {i v n : Nat} (hi : Φ i = F_draw) {e : IE} {ρ : List (Option D)} {S : Sto} {c k m : Int} (hv : ρ[v]? = some (some (.box n))) (he : ev Φ e ρ S = .ok (.p (.int m)) S) (hn : S[n]? = some (some (bagP c k))) (h : k.natAbs < 2 ^ 50 ∧ 0 < m ∧ m.natAbs < 2 ^ 60) :
    ev Φ (.call false i [] (.cons (.var v) (.cons e .nil))) ρ S = .ok (.p (.int (drawD c k m))) (S.set n (some (bagP (drawC c m) (k + 1)))) := by
  have ta : toArgs S [.box n, .p (.int m)] = some ([.o (bagP c k), .p (.int m)], [n]) := by
    simp [toArgs, hn]
  have cA : callA (Φ i) [.box n, .p (.int m)] S = .ok (.p (.int (drawD c k m))) (S.set n (some (bagP (drawC c m) (k + 1)))) := by
    unfold callA
    rw [ta]
    dsimp only
    rw [if_pos ⟨by simp, by simp [boxesA, purO, O.pure, bagP]⟩, hi, F_draw_eq h]
    dsimp only
    rw [if_pos ⟨rfl, by simp [O.pure, bagP]⟩]
    rfl
  simp only [ev, evL, hv, he, Res.bind, Bool.false_eq_true, if_false, List.map_nil, List.append_nil]
  exact cA
theorem law_cells (Φ : Nat → List Arg → LR) (ns : List Int) (h : ns.length ≤ 63) : ∃ cs : List Int, cs.length ≤ 1000 ∧ ev Φ (.o2 .add (.slice (.var 0) false true (.cst .non) (.cst (.int 8))) (.o2 .mul (.lst false (.cons (.cst (.int 0)) .nil)) (.o1 .int (.o2 .eq (.var 0) (.lst false .nil))))) [some (.p (.fls (ns.map .int))), none, none] [] = .ok (.p (.lst (cs.map .int))) [] := by
  have v0 : ev Φ (.var 0) [some (.p (.fls (ns.map .int))), none, none] [] = .ok (.p (.fls (ns.map .int))) [] := rfl
  obtain ⟨b, eb⟩ := eq_nil ns
  have e0 : ev Φ (.lst false .nil) [some (.p (.fls (ns.map .int))), none, none] [] = .ok (.p (.lst [])) [] := by
    simp [ev, evL, Res.bind, frzL, boxIf, cont, optR]
  have e1 := ev_o2 (o := .eq) v0 e0 eb
  have e2 := ev_o1 (o := .int) e1 (show prim1 .int (.bl b) = some (.int (if b then 1 else 0)) from rfl)
  have e3 : ev Φ (.lst false (.cons (.cst (.int 0)) .nil)) [some (.p (.fls (ns.map .int))), none, none] [] = .ok (.p (.lst [.int 0])) [] := ev_one rfl
  have em := law_zs b
  obtain ⟨zs, hz, em⟩ := em
  have e4 := ev_o2 (o := .mul) e3 e2 em
  have sl := law_sl Φ ns h
  obtain ⟨ms, hm, es⟩ := sl
  refine ⟨ms ++ zs, by rw [List.length_append]; omega, ?_⟩
  refine ev_o2 (o := .add) es e4 ?_
  show (if _ then some (P.lst _) else none) = _
  rw [if_pos (by rw [List.length_map, List.length_map, PySem.sizeLine_eq]; omega), List.map_append]
end PD
/-! written by mkpd.py -/
namespace K88
open PySem PD L2
def top (i : Nat) : Stmt := PySem.Challenge.pw_prepaidplans_k88_errors_are_distinct.main.body.getD i (.Pass ⟨0, 0, 0, 0⟩)
/-- 0: _law_bag -/
abbrev s_law_bag : Stmt := top 34
def N_law_bag : List Str := ["cell", "k"]
def b_law_bag : IB := (.cons (.iff (.tr (.o2 .lt (.var 0) (.cst (.int 0))))
      (.cons (.ret false (.lst true (.cons (.o1 .neg (.var 0)) (.cons (.o2 .add (.o2 .mul (.cst (.int 37)) (.var 1)) (.cst (.int 18))) .nil))))
      .nil)
      .nil)
      (.cons (.ret false (.lst true (.cons (.var 0) (.cons (.o2 .mul (.cst (.int 37)) (.var 1)) .nil))))
      .nil))
/-- 1: _law_draw -/
abbrev s_law_draw : Stmt := top 35
def N_law_draw : List Str := ["bag", "many", "one", "digit"]
def b_law_draw : IB := (.cons (.ixaug .add (.var 0) (.cst (.int 1)) (.cst (.int 1)))
      (.cons (.iff (.tr (.o2 .ge (.o2 .ix (.var 0) (.cst (.int 0))) (.o2 .pow (.cst (.int 10)) (.cst (.int 18)))))
      (.cons (.set (.nm 3) (.o2 .mod (.o1 .int (.o2 .ix (.var 0) (.cst (.int 0)))) (.var 1)))
      (.cons (.ixset (.var 0) (.cst (.int 0)) (.o2 .fdiv (.o2 .ix (.var 0) (.cst (.int 0))) (.var 1)))
      (.cons (.ret true (.var 3))
      .nil)))
      .nil)
      (.cons (.set (.nm 2) (.o2 .mod (.o1 .int (.o2 .add (.o2 .add (.o2 .mod (.o1 .int (.o2 .ix (.var 0) (.cst (.int 0)))) (.cst (.int 2147483629))) (.o2 .mul (.cst (.int 104729)) (.o2 .ix (.var 0) (.cst (.int 1))))) (.cst (.int 1)))) (.cst (.int 2147483587))))
      (.cons (.set (.nm 2) (.o2 .mod (.o1 .int (.o2 .mul (.var 2) (.var 2))) (.cst (.int 2147483587))))
      (.cons (.set (.nm 2) (.o2 .mod (.o1 .int (.o2 .add (.var 2) (.o2 .mul (.cst (.int 40692)) (.o2 .ix (.var 0) (.cst (.int 1)))))) (.cst (.int 2147483563))))
      (.cons (.set (.nm 2) (.o2 .mod (.o1 .int (.o2 .mul (.var 2) (.var 2))) (.cst (.int 2147483563))))
      (.cons (.ret true (.o2 .mod (.o1 .int (.o2 .fdiv (.var 2) (.cst (.int 8)))) (.var 1)))
      .nil)))))))
/-- 2: _law_marks -/
abbrev s_law_marks : Stmt := top 36
def N_law_marks : List Str := ["e", "marks"]
def b_law_marks : IB := (.cons (.set (.nm 1) (.lst false .nil))
      (.cons (.set (.nm 1) (.o2 .add (.var 1) (.lst false (.cons (.o1 (.isX 32 30 [10]) (.var 0)) (.cons (.o1 (.isX 32 29 [15]) (.var 0)) .nil)))))
      (.cons (.set (.nm 1) (.o2 .add (.var 1) (.lst false (.cons (.o1 (.isX 32 28 [11]) (.var 0)) (.cons (.o1 (.isX 32 27 [7]) (.var 0)) .nil)))))
      (.cons (.set (.nm 1) (.o2 .add (.var 1) (.lst false (.cons (.o1 (.isX 32 26 [17]) (.var 0)) (.cons (.o1 (.isX 32 25 [26]) (.var 0)) .nil)))))
      (.cons (.set (.nm 1) (.o2 .add (.var 1) (.lst false (.cons (.o1 (.isX 32 24 [1]) (.var 0)) (.cons (.o1 (.isX 32 23 [9]) (.var 0)) .nil)))))
      (.cons (.set (.nm 1) (.o2 .add (.var 1) (.lst false (.cons (.o1 (.isX 32 22 [25]) (.var 0)) (.cons (.o1 (.isX 32 21 [4]) (.var 0)) .nil)))))
      (.cons (.set (.nm 1) (.o2 .add (.var 1) (.lst false (.cons (.o1 (.isX 32 20 [13]) (.var 0)) (.cons (.o1 (.isX 32 19 [14]) (.var 0)) .nil)))))
      (.cons (.set (.nm 1) (.o2 .add (.var 1) (.lst false (.cons (.o1 (.isX 32 18 [27]) (.var 0)) (.cons (.o1 (.isX 32 17 [6]) (.var 0)) .nil)))))
      (.cons (.set (.nm 1) (.o2 .add (.var 1) (.lst false (.cons (.o1 (.isX 32 16 [22]) (.var 0)) (.cons (.o1 (.isX 32 15 [2]) (.var 0)) .nil)))))
      (.cons (.set (.nm 1) (.o2 .add (.var 1) (.lst false (.cons (.o1 (.isX 32 14 [12]) (.var 0)) (.cons (.o1 (.isX 32 13 [5]) (.var 0)) .nil)))))
      (.cons (.set (.nm 1) (.o2 .add (.var 1) (.lst false (.cons (.o1 (.isX 32 12 [21]) (.var 0)) (.cons (.o1 (.isX 32 11 [24]) (.var 0)) .nil)))))
      (.cons (.set (.nm 1) (.o2 .add (.var 1) (.lst false (.cons (.o1 (.isX 32 10 [3]) (.var 0)) (.cons (.o1 (.isX 32 9 [8]) (.var 0)) .nil)))))
      (.cons (.set (.nm 1) (.o2 .add (.var 1) (.lst false (.cons (.o1 (.isX 32 8 [16]) (.var 0)) (.cons (.o1 (.isX 32 7 [29]) (.var 0)) .nil)))))
      (.cons (.set (.nm 1) (.o2 .add (.var 1) (.lst false (.cons (.o1 (.isX 32 6 [28]) (.var 0)) (.cons (.o1 (.isX 32 5 [20]) (.var 0)) .nil)))))
      (.cons (.set (.nm 1) (.o2 .add (.var 1) (.lst false (.cons (.o1 (.isX 32 4 [18]) (.var 0)) (.cons (.o1 (.isX 32 3 [19]) (.var 0)) .nil)))))
      (.cons (.set (.nm 1) (.o2 .add (.var 1) (.lst false (.cons (.o1 (.isX 32 2 [31]) (.var 0)) (.cons (.o1 (.isX 32 1 [23]) (.var 0)) .nil)))))
      (.cons (.set (.nm 1) (.o2 .add (.var 1) (.lst false (.cons (.o1 (.isX 32 0 [30]) (.var 0)) .nil))))
      (.cons (.ret true (.var 1))
      .nil))))))))))))))))))
/-- 3: _law_fields_right -/
abbrev s_law_fields_right : Stmt := top 37
def N_law_fields_right : List Str := ["amount", "way", "word", "values", "due"]
def b_law_fields_right : IB := (.cons (.set (.nm 1) (.tup (.cons (.o2 .mod (.o1 .int (.var 0)) (.cst (.int 4))) (.cons (.cst (.int 1)) .nil))))
      (.cons (.set (.nm 2) (.o2 .ix (.lst false (.cons (.cst (.str "a")) (.cons (.cst (.str "task")) (.cons (.cst (.str "withins")) .nil)))) (.o2 .mod (.o1 .int (.var 0)) (.cst (.int 3)))))
      (.cons (.set (.nm 3) (.lst false (.cons (.o1 (.xf 21 "name") (.mkx false 21 (some "name") (.cons (.var 2) .nil))) (.cons (.o1 (.xf 21 "name") (.mkx true 21 (some "name") (.cons (.var 2) .nil))) .nil))))
      (.cons (.set (.nm 4) (.o2 .mul (.lst false (.cons (.var 2) .nil)) (.cst (.int 2))))
      (.cons (.set (.nm 3) (.o2 .add (.var 3) (.lst false (.cons (.o1 (.xf 22 "path") (.mkx false 22 (some "path") (.cons (.var 1) .nil))) (.cons (.o1 (.xf 22 "path") (.mkx true 22 (some "path") (.cons (.var 1) .nil))) (.cons (.o1 (.xf 26 "path") (.mkx false 26 (some "path") (.cons (.var 1) .nil))) .nil))))))
      (.cons (.set (.nm 3) (.o2 .add (.var 3) (.lst false (.cons (.o1 (.xf 26 "path") (.mkx true 26 (some "path") (.cons (.var 1) .nil))) (.cons (.o1 (.xf 31 "path") (.mkx false 31 (some "path") (.cons (.var 1) .nil))) (.cons (.o1 (.xf 31 "path") (.mkx true 31 (some "path") (.cons (.var 1) .nil))) .nil))))))
      (.cons (.set (.nm 4) (.o2 .add (.var 4) (.o2 .mul (.lst false (.cons (.var 1) .nil)) (.cst (.int 6)))))
      (.cons (.set (.nm 3) (.o2 .add (.var 3) (.lst false (.cons (.o1 (.xf 23 "number") (.mkx false 23 (some "number") (.cons (.var 0) .nil))) (.cons (.o1 (.xf 23 "number") (.mkx true 23 (some "number") (.cons (.var 0) .nil))) (.cons (.o1 (.xf 30 "limit") (.mkx false 30 (some "limit") (.cons (.var 0) .nil))) .nil))))))
      (.cons (.set (.nm 3) (.o2 .add (.var 3) (.lst false (.cons (.o1 (.xf 30 "limit") (.mkx true 30 (some "limit") (.cons (.var 0) .nil))) (.cons (.o1 (.xf 24 "index") (.mkx false 24 (some "index") (.cons (.var 0) .nil))) (.cons (.o1 (.xf 24 "index") (.mkx true 24 (some "index") (.cons (.var 0) .nil))) .nil))))))
      (.cons (.set (.nm 3) (.o2 .add (.var 3) (.lst false (.cons (.o1 (.xf 25 "line") (.mkx false 25 (some "line") (.cons (.var 0) .nil))) (.cons (.o1 (.xf 25 "line") (.mkx true 25 (some "line") (.cons (.var 0) .nil))) (.cons (.o1 (.xf 27 "index") (.mkx false 27 (some "index") (.cons (.var 0) .nil))) .nil))))))
      (.cons (.set (.nm 3) (.o2 .add (.var 3) (.lst false (.cons (.o1 (.xf 27 "index") (.mkx true 27 (some "index") (.cons (.var 0) .nil))) (.cons (.o1 (.xf 28 "index") (.mkx false 28 (some "index") (.cons (.var 0) .nil))) (.cons (.o1 (.xf 28 "index") (.mkx true 28 (some "index") (.cons (.var 0) .nil))) .nil))))))
      (.cons (.set (.nm 3) (.o2 .add (.var 3) (.lst false (.cons (.o1 (.xf 29 "index") (.mkx false 29 (some "index") (.cons (.var 0) .nil))) (.cons (.o1 (.xf 29 "index") (.mkx true 29 (some "index") (.cons (.var 0) .nil))) .nil)))))
      (.cons (.ret true (.o2 .eq (.var 3) (.o2 .add (.var 4) (.o2 .mul (.lst false (.cons (.var 0) .nil)) (.cst (.int 14))))))
      .nil)))))))))))))
/-- 4: _law_right -/
abbrev s_law_right : Stmt := top 38
def N_law_right : List Str := ["message", "amount", "some", "k", "other"]
def b_law_right : IB := (.cons (.set (.nm 2) (.lst false .nil))
      (.cons (.set (.nm 2) (.o2 .add (.var 2) (.lst false (.cons (.mkx false 10 none (.cons (.var 0) .nil)) (.cons (.mkx false 15 none (.cons (.var 0) .nil)) .nil)))))
      (.cons (.set (.nm 2) (.o2 .add (.var 2) (.lst false (.cons (.mkx false 11 none (.cons (.var 0) .nil)) (.cons (.mkx false 7 none (.cons (.var 0) .nil)) .nil)))))
      (.cons (.set (.nm 2) (.o2 .add (.var 2) (.lst false (.cons (.mkx false 17 none (.cons (.var 0) .nil)) (.cons (.mkx false 26 (some "path") (.cons (.tup (.cons (.cst (.int 0)) .nil)) .nil)) .nil)))))
      (.cons (.set (.nm 2) (.o2 .add (.var 2) (.lst false (.cons (.mkx false 1 none (.cons (.var 0) .nil)) (.cons (.mkx false 9 none (.cons (.var 0) .nil)) .nil)))))
      (.cons (.set (.nm 2) (.o2 .add (.var 2) (.lst false (.cons (.mkx false 25 (some "line") (.cons (.var 1) .nil)) (.cons (.mkx false 4 none (.cons (.var 0) .nil)) .nil)))))
      (.cons (.set (.nm 2) (.o2 .add (.var 2) (.lst false (.cons (.mkx false 13 none (.cons (.var 0) .nil)) (.cons (.mkx false 14 none (.cons (.var 0) .nil)) .nil)))))
      (.cons (.set (.nm 2) (.o2 .add (.var 2) (.lst false (.cons (.mkx false 27 (some "index") (.cons (.var 1) .nil)) (.cons (.mkx false 6 none (.cons (.var 0) .nil)) .nil)))))
      (.cons (.set (.nm 2) (.o2 .add (.var 2) (.lst false (.cons (.mkx false 22 (some "path") (.cons (.tup .nil) .nil)) (.cons (.mkx false 2 none (.cons (.var 0) .nil)) .nil)))))
      (.cons (.set (.nm 2) (.o2 .add (.var 2) (.lst false (.cons (.mkx false 12 none (.cons (.var 0) .nil)) (.cons (.mkx false 5 none (.cons (.var 0) .nil)) .nil)))))
      (.cons (.set (.nm 2) (.o2 .add (.var 2) (.lst false (.cons (.mkx false 21 (some "name") (.cons (.cst (.str "a")) .nil)) (.cons (.mkx false 24 (some "index") (.cons (.var 1) .nil)) .nil)))))
      (.cons (.set (.nm 2) (.o2 .add (.var 2) (.lst false (.cons (.mkx false 3 none (.cons (.var 0) .nil)) (.cons (.mkx false 8 none (.cons (.var 0) .nil)) .nil)))))
      (.cons (.set (.nm 2) (.o2 .add (.var 2) (.lst false (.cons (.mkx false 16 none (.cons (.var 0) .nil)) (.cons (.mkx false 29 (some "index") (.cons (.var 1) .nil)) .nil)))))
      (.cons (.set (.nm 2) (.o2 .add (.var 2) (.lst false (.cons (.mkx false 28 (some "index") (.cons (.var 1) .nil)) (.cons (.mkx false 20 none (.cons (.var 0) .nil)) .nil)))))
      (.cons (.set (.nm 2) (.o2 .add (.var 2) (.lst false (.cons (.mkx false 18 none (.cons (.var 0) .nil)) (.cons (.mkx false 19 none (.cons (.var 0) .nil)) .nil)))))
      (.cons (.set (.nm 2) (.o2 .add (.var 2) (.lst false (.cons (.mkx false 31 (some "path") (.cons (.tup (.cons (.cst (.int 1)) .nil)) .nil)) (.cons (.mkx false 23 (some "number") (.cons (.var 1) .nil)) .nil)))))
      (.cons (.set (.nm 2) (.o2 .add (.var 2) (.lst false (.cons (.mkx false 30 (some "limit") (.cons (.var 1) .nil)) .nil))))
      (.cons (.for_ (.nm 3) (.rng1 (.cst (.int 31)))
      (.cons (.iff (.tr (.o2 .ne (.call true 2 [] (.cons (.o2 .ix (.var 2) (.var 3)) .nil)) (.lc false [4] (.o2 .eq (.var 4) (.var 3)) (.nm 4) (.rng1 (.cst (.int 31))) .tt)))
      (.cons (.ret true (.cst (.bl false)))
      .nil)
      .nil)
      (.cons (.iff (.or (.not (.tr (.o1 (.isX 32 32 [0, 1, 2, 3, 4, 5, 6, 7, 8, 9, 10, 11, 12, 13, 14, 15, 16, 17, 18, 19, 20, 21, 22, 23, 24, 25, 26, 27, 28, 29, 30, 31]) (.o2 .ix (.var 2) (.var 3))))) (.not (.tr (.o1 (.isX 32 31 [0, 1, 2, 3, 4, 5, 6, 7, 8, 9, 10, 11, 12, 13, 14, 15, 16, 17, 18, 19, 20, 21, 22, 23, 24, 25, 26, 27, 28, 29, 30, 31]) (.o2 .ix (.var 2) (.var 3))))))
      (.cons (.ret true (.cst (.bl false)))
      .nil)
      .nil)
      .nil)))
      (.cons (.ret true (.and (.call true 3 [] (.cons (.var 1) .nil)) (.o2 .nmem (.cst (.bl true)) (.call true 2 [] (.cons (.mkx false 0 none (.cons (.var 0) .nil)) .nil)))))
      .nil)))))))))))))))))))
/-- 5: law -/
abbrev s_law : Stmt := top 39
def N_law : List Str := ["script", "cells", "k", "bag", "message"]
def b_law : IB := (.cons (.set (.nm 1) (.o2 .add (.slice (.var 0) false true (.cst .non) (.cst (.int 8))) (.o2 .mul (.lst false (.cons (.cst (.int 0)) .nil)) (.o1 .int (.o2 .eq (.var 0) (.lst false .nil))))))
      (.cons (.for_ (.nm 2) (.rng1 (.o1 .len (.var 1)))
      (.cons (.set (.nm 3) (.call true 0 [] (.cons (.o2 .ix (.var 1) (.var 2)) (.cons (.var 2) .nil))))
      (.cons (.set (.nm 4) (.o2 .mul (.o2 .ix (.cst (.str "a| ~")) (.call false 1 [] (.cons (.var 3) (.cons (.cst (.int 4)) .nil)))) (.call false 1 [] (.cons (.var 3) (.cons (.cst (.int 60)) .nil)))))
      (.cons (.iff (.not (.tr (.call true 4 [] (.cons (.var 4) (.cons (.call false 1 [] (.cons (.var 3) (.cons (.o2 .pow (.cst (.int 10)) (.cst (.int 9))) .nil))) .nil)))))
      (.cons (.ret true (.cst (.bl false)))
      .nil)
      .nil)
      .nil))))
      (.cons (.ret true (.cst (.bl true)))
      .nil)))
def tab : Tab where
  fns := [("_law_bag", 0, []), ("_law_draw", 1, []), ("_law_fields_right", 3, []), ("_law_marks", 2, []), ("_law_right", 4, [])]
  mks := []
  mts := []
  ops := []
  eqs := []
  nes := []
  ins := []
  lens := []
  fls := []
  cls := []
  gls := []
  blts := ["int", "isinstance", "len", "range"]
  ncl := 0
  isa := []
  xs := [(("InvalidArrows" : Str), (10 : Nat), (none : Option Str)), (("InvalidBeginning" : Str), (15 : Nat), (none : Option Str)), (("InvalidChains" : Str), (11 : Nat), (none : Option Str)), (("InvalidCourse" : Str), (7 : Nat), (none : Option Str)), (("InvalidEnd" : Str), (17 : Nat), (none : Option Str)), (("InvalidFates" : Str), (26 : Nat), ((some "path") : Option Str)), (("InvalidFraction" : Str), (1 : Nat), (none : Option Str)), (("InvalidKind" : Str), (9 : Nat), (none : Option Str)), (("InvalidLine" : Str), (25 : Nat), ((some "line") : Option Str)), (("InvalidName" : Str), (4 : Nat), (none : Option Str)), (("InvalidNames" : Str), (13 : Nat), (none : Option Str)), (("InvalidNumber" : Str), (14 : Nat), (none : Option Str)), (("InvalidParts" : Str), (27 : Nat), ((some "index") : Option Str)), (("InvalidPath" : Str), (6 : Nat), (none : Option Str)), (("InvalidPlan" : Str), (22 : Nat), ((some "path") : Option Str)), (("InvalidRow" : Str), (2 : Nat), (none : Option Str)), (("InvalidShare" : Str), (12 : Nat), (none : Option Str)), (("InvalidTask" : Str), (5 : Nat), (none : Option Str)), (("InvalidTasks" : Str), (21 : Nat), ((some "name") : Option Str)), (("InvalidText" : Str), (24 : Nat), ((some "index") : Option Str)), (("InvalidTick" : Str), (3 : Nat), (none : Option Str)), (("InvalidWeights" : Str), (8 : Nat), (none : Option Str)), (("InvalidWord" : Str), (16 : Nat), (none : Option Str)), (("NeverDone" : Str), (29 : Nat), ((some "index") : Option Str)), (("NotRisky" : Str), (28 : Nat), ((some "index") : Option Str)), (("NotSafe" : Str), (20 : Nat), (none : Option Str)), (("NothingRuns" : Str), (18 : Nat), (none : Option Str)), (("NothingToUndo" : Str), (19 : Nat), (none : Option Str)), (("Overdue" : Str), (31 : Nat), ((some "path") : Option Str)), (("PlanError" : Str), (0 : Nat), (none : Option Str)), (("TooLarge" : Str), (23 : Nat), ((some "number") : Option Str)), (("TooMany" : Str), (30 : Nat), ((some "limit") : Option Str))]
  nx := 32
  xis := [(("TooMany" : Str), ([30] : List Nat)), (("TooLarge" : Str), ([23] : List Nat)), (("Overdue" : Str), ([31] : List Nat)), (("NothingToUndo" : Str), ([19] : List Nat)), (("NothingRuns" : Str), ([18] : List Nat)), (("NotSafe" : Str), ([20] : List Nat)), (("NotRisky" : Str), ([28] : List Nat)), (("NeverDone" : Str), ([29] : List Nat)), (("InvalidWord" : Str), ([16] : List Nat)), (("InvalidWeights" : Str), ([8] : List Nat)), (("InvalidTick" : Str), ([3] : List Nat)), (("InvalidText" : Str), ([24] : List Nat)), (("InvalidTasks" : Str), ([21] : List Nat)), (("InvalidTask" : Str), ([5] : List Nat)), (("InvalidShare" : Str), ([12] : List Nat)), (("InvalidRow" : Str), ([2] : List Nat)), (("InvalidPlan" : Str), ([22] : List Nat)), (("InvalidPath" : Str), ([6] : List Nat)), (("InvalidParts" : Str), ([27] : List Nat)), (("InvalidNumber" : Str), ([14] : List Nat)), (("InvalidNames" : Str), ([13] : List Nat)), (("InvalidName" : Str), ([4] : List Nat)), (("InvalidLine" : Str), ([25] : List Nat)), (("InvalidKind" : Str), ([9] : List Nat)), (("InvalidFraction" : Str), ([1] : List Nat)), (("InvalidFates" : Str), ([26] : List Nat)), (("InvalidEnd" : Str), ([17] : List Nat)), (("InvalidCourse" : Str), ([7] : List Nat)), (("InvalidChains" : Str), ([11] : List Nat)), (("InvalidBeginning" : Str), ([15] : List Nat)), (("InvalidArrows" : Str), ([10] : List Nat)), (("ValueError" : Str), ([0, 1, 2, 3, 4, 5, 6, 7, 8, 9, 10, 11, 12, 13, 14, 15, 16, 17, 18, 19, 20, 21, 22, 23, 24, 25, 26, 27, 28, 29, 30, 31] : List Nat)), (("PlanError" : Str), ([0, 1, 2, 3, 4, 5, 6, 7, 8, 9, 10, 11, 12, 13, 14, 15, 16, 17, 18, 19, 20, 21, 22, 23, 24, 25, 26, 27, 28, 29, 30, 31] : List Nat))]
  xfs := [(21, "name"), (22, "path"), (23, "number"), (24, "index"), (25, "line"), (26, "path"), (27, "index"), (28, "index"), (29, "index"), (30, "limit"), (31, "path")]
end K88
namespace K88
open PySem PD L2
theorem ck_law_bag : ckB tab N_law_bag b_law_bag (C8.fnScope s_law_bag) (C8.fnBody s_law_bag) = true := by decide +kernel
theorem ck_law_draw : ckB tab N_law_draw b_law_draw (C8.fnScope s_law_draw) (C8.fnBody s_law_draw) = true := by decide +kernel
theorem ck_law_marks : ckB tab N_law_marks b_law_marks (C8.fnScope s_law_marks) (C8.fnBody s_law_marks) = true := by decide +kernel
theorem ck_law_fields_right : ckB tab N_law_fields_right b_law_fields_right (C8.fnScope s_law_fields_right) (C8.fnBody s_law_fields_right) = true := by decide +kernel
theorem ck_law_right : ckB tab N_law_right b_law_right (C8.fnScope s_law_right) (C8.fnBody s_law_right) = true := by decide +kernel
theorem ck_law : ckB tab N_law b_law (C8.fnScope s_law) (C8.fnBody s_law) = true := by decide +kernel
end K88
namespace K88
open PySem PD L2
theorem mk_law_bag {K : PySem.W.Frag} {f : Addr} {oc kV dc pm cd ct : Value} {od an : Option Addr} {sl : Array (Option Value)} (l : K.lookup f = some ⟨oc, od, .func (PySem.W.fnOf "_law_bag" "_law_bag" (C8.fnArgs s_law_bag) (C8.fnBody s_law_bag) (C8.fnScope s_law_bag) .none kV dc pm an cd ct), sl⟩) (c : PySem.W.codeIn K cd "_law_bag" = true) :
    ∃ fd, C8.Fun K "_law_bag" "_law_bag" s_law_bag f fd ∧ Binds K fd ["cell", "k"] [] := ⟨_, ⟨⟨oc, od, .none, kV, dc, pm, an, cd, ct, sl, rfl, l, c⟩⟩, .all fun us hl => match us, hl with | [_, _], _ => rfl⟩
theorem mk_law_draw {K : PySem.W.Frag} {f : Addr} {oc kV dc pm cd ct : Value} {od an : Option Addr} {sl : Array (Option Value)} (l : K.lookup f = some ⟨oc, od, .func (PySem.W.fnOf "_law_draw" "_law_draw" (C8.fnArgs s_law_draw) (C8.fnBody s_law_draw) (C8.fnScope s_law_draw) .none kV dc pm an cd ct), sl⟩) (c : PySem.W.codeIn K cd "_law_draw" = true) :
    ∃ fd, C8.Fun K "_law_draw" "_law_draw" s_law_draw f fd ∧ Binds K fd ["bag", "many"] [] := ⟨_, ⟨⟨oc, od, .none, kV, dc, pm, an, cd, ct, sl, rfl, l, c⟩⟩, .all fun us hl => match us, hl with | [_, _], _ => rfl⟩
theorem mk_law_marks {K : PySem.W.Frag} {f : Addr} {oc kV dc pm cd ct : Value} {od an : Option Addr} {sl : Array (Option Value)} (l : K.lookup f = some ⟨oc, od, .func (PySem.W.fnOf "_law_marks" "_law_marks" (C8.fnArgs s_law_marks) (C8.fnBody s_law_marks) (C8.fnScope s_law_marks) .none kV dc pm an cd ct), sl⟩) (c : PySem.W.codeIn K cd "_law_marks" = true) :
    ∃ fd, C8.Fun K "_law_marks" "_law_marks" s_law_marks f fd ∧ Binds K fd ["e"] [] := ⟨_, ⟨⟨oc, od, .none, kV, dc, pm, an, cd, ct, sl, rfl, l, c⟩⟩, .all fun us hl => match us, hl with | [_], _ => rfl⟩
theorem mk_law_fields_right {K : PySem.W.Frag} {f : Addr} {oc kV dc pm cd ct : Value} {od an : Option Addr} {sl : Array (Option Value)} (l : K.lookup f = some ⟨oc, od, .func (PySem.W.fnOf "_law_fields_right" "_law_fields_right" (C8.fnArgs s_law_fields_right) (C8.fnBody s_law_fields_right) (C8.fnScope s_law_fields_right) .none kV dc pm an cd ct), sl⟩) (c : PySem.W.codeIn K cd "_law_fields_right" = true) :
    ∃ fd, C8.Fun K "_law_fields_right" "_law_fields_right" s_law_fields_right f fd ∧ Binds K fd ["amount"] [] := ⟨_, ⟨⟨oc, od, .none, kV, dc, pm, an, cd, ct, sl, rfl, l, c⟩⟩, .all fun us hl => match us, hl with | [_], _ => rfl⟩
theorem mk_law_right {K : PySem.W.Frag} {f : Addr} {oc kV dc pm cd ct : Value} {od an : Option Addr} {sl : Array (Option Value)} (l : K.lookup f = some ⟨oc, od, .func (PySem.W.fnOf "_law_right" "_law_right" (C8.fnArgs s_law_right) (C8.fnBody s_law_right) (C8.fnScope s_law_right) .none kV dc pm an cd ct), sl⟩) (c : PySem.W.codeIn K cd "_law_right" = true) :
    ∃ fd, C8.Fun K "_law_right" "_law_right" s_law_right f fd ∧ Binds K fd ["message", "amount"] [] := ⟨_, ⟨⟨oc, od, .none, kV, dc, pm, an, cd, ct, sl, rfl, l, c⟩⟩, .all fun us hl => match us, hl with | [_, _], _ => rfl⟩
theorem mk_law {K : PySem.W.Frag} {f : Addr} {oc kV dc pm cd ct : Value} {od an : Option Addr} {sl : Array (Option Value)} (l : K.lookup f = some ⟨oc, od, .func (PySem.W.fnOf "law" "law" (C8.fnArgs s_law) (C8.fnBody s_law) (C8.fnScope s_law) .none kV dc pm an cd ct), sl⟩) (c : PySem.W.codeIn K cd "law" = true) :
    ∃ fd, C8.Fun K "law" "law" s_law f fd ∧ Binds K fd ["script"] [] ∧ ∀ (s : Shared) (v : Value), BindsTo s fd ⟨[v], []⟩ [("script", v)] := ⟨_, ⟨⟨oc, od, .none, kV, dc, pm, an, cd, ct, sl, rfl, l, c⟩⟩, .all fun us hl => match us, hl with | [_], _ => rfl, fun s v => .of_eq rfl⟩
abbrev sx_InvalidTasks : Stmt := inClass (top 22) 0
theorem mkx_InvalidTasks {P : Program} {K : PySem.W.Frag} {mg : Str → Option Value} {C g cda cc : Addr} {oc kV dc pm ct ccl cl : Value} {od an cdd cld : Option Addr} {sl ccs csl : Array (Option Value)} {vs : Array Value} {file : Str} {tf : Tok} (T : L2.OexC K C) (hs : mg "super" = none) (ho : PySem.W.nsIn K cStatics "thirdparty.any" = some none) (ini : PX.xIniB K C g "name" = true)
    (l : K.lookup g = some ⟨oc, od, .func (PySem.W.ksFn "__init__" "InvalidTasks.__init__" (C8.fnArgs sx_InvalidTasks) (C8.fnBody sx_InvalidTasks) (C8.fnScope sx_InvalidTasks) .none kV dc pm an (.ref cda) ct cc), sl⟩) (c : PySem.W.codeIn K (.ref cda) "InvalidTasks.__init__" = true)
    (lc : K.lookup cda = some ⟨ccl, cdd, .fields vs, ccs⟩) (hv : vs[2]? = some (.str file tf)) (hw : ((P.main.file : Str) == file) = true) (lz : K.lookup cc = some ⟨cl, cld, .cell (some (.ref C)), csl⟩) (top : (P.main.scope.names.lookup ("super" : Str)).isSome = false) : PX.XInit P K mg C g "name" := by
  obtain ⟨⟨a1, a2⟩, a3, a4, a5, a6⟩ := PX.xIni_ok ini
  exact ⟨T, a1, a2, hs, a3, ho, a4, a5, a6, top, by decide, by decide, ⟨_, _, _, _, _, _, _, _, _, _, _, _, _, _, _, _, _, _, _, _, _, _, _, _, _, _, _, l, c, ⟨_, _, _, _, _, _, lc, hv, hw⟩, ⟨_, _, _, lz⟩, ⟨_, rfl, rfl⟩, ⟨rfl, rfl, rfl, rfl, by decide +kernel, rfl, rfl, rfl⟩, by decide +kernel, fun s e u => .of_eq rfl, fun s e u => .of_eq rfl⟩⟩
abbrev sx_InvalidPlan : Stmt := inClass (top 23) 0
theorem mkx_InvalidPlan {P : Program} {K : PySem.W.Frag} {mg : Str → Option Value} {C g cda cc : Addr} {oc kV dc pm ct ccl cl : Value} {od an cdd cld : Option Addr} {sl ccs csl : Array (Option Value)} {vs : Array Value} {file : Str} {tf : Tok} (T : L2.OexC K C) (hs : mg "super" = none) (ho : PySem.W.nsIn K cStatics "thirdparty.any" = some none) (ini : PX.xIniB K C g "path" = true)
    (l : K.lookup g = some ⟨oc, od, .func (PySem.W.ksFn "__init__" "InvalidPlan.__init__" (C8.fnArgs sx_InvalidPlan) (C8.fnBody sx_InvalidPlan) (C8.fnScope sx_InvalidPlan) .none kV dc pm an (.ref cda) ct cc), sl⟩) (c : PySem.W.codeIn K (.ref cda) "InvalidPlan.__init__" = true)
    (lc : K.lookup cda = some ⟨ccl, cdd, .fields vs, ccs⟩) (hv : vs[2]? = some (.str file tf)) (hw : ((P.main.file : Str) == file) = true) (lz : K.lookup cc = some ⟨cl, cld, .cell (some (.ref C)), csl⟩) (top : (P.main.scope.names.lookup ("super" : Str)).isSome = false) : PX.XInit P K mg C g "path" := by
  obtain ⟨⟨a1, a2⟩, a3, a4, a5, a6⟩ := PX.xIni_ok ini
  exact ⟨T, a1, a2, hs, a3, ho, a4, a5, a6, top, by decide, by decide, ⟨_, _, _, _, _, _, _, _, _, _, _, _, _, _, _, _, _, _, _, _, _, _, _, _, _, _, _, l, c, ⟨_, _, _, _, _, _, lc, hv, hw⟩, ⟨_, _, _, lz⟩, ⟨_, rfl, rfl⟩, ⟨rfl, rfl, rfl, rfl, by decide +kernel, rfl, rfl, rfl⟩, by decide +kernel, fun s e u => .of_eq rfl, fun s e u => .of_eq rfl⟩⟩
abbrev sx_TooLarge : Stmt := inClass (top 24) 0
theorem mkx_TooLarge {P : Program} {K : PySem.W.Frag} {mg : Str → Option Value} {C g cda cc : Addr} {oc kV dc pm ct ccl cl : Value} {od an cdd cld : Option Addr} {sl ccs csl : Array (Option Value)} {vs : Array Value} {file : Str} {tf : Tok} (T : L2.OexC K C) (hs : mg "super" = none) (ho : PySem.W.nsIn K cStatics "thirdparty.any" = some none) (ini : PX.xIniB K C g "number" = true)
    (l : K.lookup g = some ⟨oc, od, .func (PySem.W.ksFn "__init__" "TooLarge.__init__" (C8.fnArgs sx_TooLarge) (C8.fnBody sx_TooLarge) (C8.fnScope sx_TooLarge) .none kV dc pm an (.ref cda) ct cc), sl⟩) (c : PySem.W.codeIn K (.ref cda) "TooLarge.__init__" = true)
    (lc : K.lookup cda = some ⟨ccl, cdd, .fields vs, ccs⟩) (hv : vs[2]? = some (.str file tf)) (hw : ((P.main.file : Str) == file) = true) (lz : K.lookup cc = some ⟨cl, cld, .cell (some (.ref C)), csl⟩) (top : (P.main.scope.names.lookup ("super" : Str)).isSome = false) : PX.XInit P K mg C g "number" := by
  obtain ⟨⟨a1, a2⟩, a3, a4, a5, a6⟩ := PX.xIni_ok ini
  exact ⟨T, a1, a2, hs, a3, ho, a4, a5, a6, top, by decide, by decide, ⟨_, _, _, _, _, _, _, _, _, _, _, _, _, _, _, _, _, _, _, _, _, _, _, _, _, _, _, l, c, ⟨_, _, _, _, _, _, lc, hv, hw⟩, ⟨_, _, _, lz⟩, ⟨_, rfl, rfl⟩, ⟨rfl, rfl, rfl, rfl, by decide +kernel, rfl, rfl, rfl⟩, by decide +kernel, fun s e u => .of_eq rfl, fun s e u => .of_eq rfl⟩⟩
abbrev sx_InvalidText : Stmt := inClass (top 25) 0
theorem mkx_InvalidText {P : Program} {K : PySem.W.Frag} {mg : Str → Option Value} {C g cda cc : Addr} {oc kV dc pm ct ccl cl : Value} {od an cdd cld : Option Addr} {sl ccs csl : Array (Option Value)} {vs : Array Value} {file : Str} {tf : Tok} (T : L2.OexC K C) (hs : mg "super" = none) (ho : PySem.W.nsIn K cStatics "thirdparty.any" = some none) (ini : PX.xIniB K C g "index" = true)
    (l : K.lookup g = some ⟨oc, od, .func (PySem.W.ksFn "__init__" "InvalidText.__init__" (C8.fnArgs sx_InvalidText) (C8.fnBody sx_InvalidText) (C8.fnScope sx_InvalidText) .none kV dc pm an (.ref cda) ct cc), sl⟩) (c : PySem.W.codeIn K (.ref cda) "InvalidText.__init__" = true)
    (lc : K.lookup cda = some ⟨ccl, cdd, .fields vs, ccs⟩) (hv : vs[2]? = some (.str file tf)) (hw : ((P.main.file : Str) == file) = true) (lz : K.lookup cc = some ⟨cl, cld, .cell (some (.ref C)), csl⟩) (top : (P.main.scope.names.lookup ("super" : Str)).isSome = false) : PX.XInit P K mg C g "index" := by
  obtain ⟨⟨a1, a2⟩, a3, a4, a5, a6⟩ := PX.xIni_ok ini
  exact ⟨T, a1, a2, hs, a3, ho, a4, a5, a6, top, by decide, by decide, ⟨_, _, _, _, _, _, _, _, _, _, _, _, _, _, _, _, _, _, _, _, _, _, _, _, _, _, _, l, c, ⟨_, _, _, _, _, _, lc, hv, hw⟩, ⟨_, _, _, lz⟩, ⟨_, rfl, rfl⟩, ⟨rfl, rfl, rfl, rfl, by decide +kernel, rfl, rfl, rfl⟩, by decide +kernel, fun s e u => .of_eq rfl, fun s e u => .of_eq rfl⟩⟩
abbrev sx_InvalidLine : Stmt := inClass (top 26) 0
theorem mkx_InvalidLine {P : Program} {K : PySem.W.Frag} {mg : Str → Option Value} {C g cda cc : Addr} {oc kV dc pm ct ccl cl : Value} {od an cdd cld : Option Addr} {sl ccs csl : Array (Option Value)} {vs : Array Value} {file : Str} {tf : Tok} (T : L2.OexC K C) (hs : mg "super" = none) (ho : PySem.W.nsIn K cStatics "thirdparty.any" = some none) (ini : PX.xIniB K C g "line" = true)
    (l : K.lookup g = some ⟨oc, od, .func (PySem.W.ksFn "__init__" "InvalidLine.__init__" (C8.fnArgs sx_InvalidLine) (C8.fnBody sx_InvalidLine) (C8.fnScope sx_InvalidLine) .none kV dc pm an (.ref cda) ct cc), sl⟩) (c : PySem.W.codeIn K (.ref cda) "InvalidLine.__init__" = true)
    (lc : K.lookup cda = some ⟨ccl, cdd, .fields vs, ccs⟩) (hv : vs[2]? = some (.str file tf)) (hw : ((P.main.file : Str) == file) = true) (lz : K.lookup cc = some ⟨cl, cld, .cell (some (.ref C)), csl⟩) (top : (P.main.scope.names.lookup ("super" : Str)).isSome = false) : PX.XInit P K mg C g "line" := by
  obtain ⟨⟨a1, a2⟩, a3, a4, a5, a6⟩ := PX.xIni_ok ini
  exact ⟨T, a1, a2, hs, a3, ho, a4, a5, a6, top, by decide, by decide, ⟨_, _, _, _, _, _, _, _, _, _, _, _, _, _, _, _, _, _, _, _, _, _, _, _, _, _, _, l, c, ⟨_, _, _, _, _, _, lc, hv, hw⟩, ⟨_, _, _, lz⟩, ⟨_, rfl, rfl⟩, ⟨rfl, rfl, rfl, rfl, by decide +kernel, rfl, rfl, rfl⟩, by decide +kernel, fun s e u => .of_eq rfl, fun s e u => .of_eq rfl⟩⟩
abbrev sx_InvalidFates : Stmt := inClass (top 27) 0
theorem mkx_InvalidFates {P : Program} {K : PySem.W.Frag} {mg : Str → Option Value} {C g cda cc : Addr} {oc kV dc pm ct ccl cl : Value} {od an cdd cld : Option Addr} {sl ccs csl : Array (Option Value)} {vs : Array Value} {file : Str} {tf : Tok} (T : L2.OexC K C) (hs : mg "super" = none) (ho : PySem.W.nsIn K cStatics "thirdparty.any" = some none) (ini : PX.xIniB K C g "path" = true)
    (l : K.lookup g = some ⟨oc, od, .func (PySem.W.ksFn "__init__" "InvalidFates.__init__" (C8.fnArgs sx_InvalidFates) (C8.fnBody sx_InvalidFates) (C8.fnScope sx_InvalidFates) .none kV dc pm an (.ref cda) ct cc), sl⟩) (c : PySem.W.codeIn K (.ref cda) "InvalidFates.__init__" = true)
    (lc : K.lookup cda = some ⟨ccl, cdd, .fields vs, ccs⟩) (hv : vs[2]? = some (.str file tf)) (hw : ((P.main.file : Str) == file) = true) (lz : K.lookup cc = some ⟨cl, cld, .cell (some (.ref C)), csl⟩) (top : (P.main.scope.names.lookup ("super" : Str)).isSome = false) : PX.XInit P K mg C g "path" := by
  obtain ⟨⟨a1, a2⟩, a3, a4, a5, a6⟩ := PX.xIni_ok ini
  exact ⟨T, a1, a2, hs, a3, ho, a4, a5, a6, top, by decide, by decide, ⟨_, _, _, _, _, _, _, _, _, _, _, _, _, _, _, _, _, _, _, _, _, _, _, _, _, _, _, l, c, ⟨_, _, _, _, _, _, lc, hv, hw⟩, ⟨_, _, _, lz⟩, ⟨_, rfl, rfl⟩, ⟨rfl, rfl, rfl, rfl, by decide +kernel, rfl, rfl, rfl⟩, by decide +kernel, fun s e u => .of_eq rfl, fun s e u => .of_eq rfl⟩⟩
abbrev sx_InvalidParts : Stmt := inClass (top 28) 0
theorem mkx_InvalidParts {P : Program} {K : PySem.W.Frag} {mg : Str → Option Value} {C g cda cc : Addr} {oc kV dc pm ct ccl cl : Value} {od an cdd cld : Option Addr} {sl ccs csl : Array (Option Value)} {vs : Array Value} {file : Str} {tf : Tok} (T : L2.OexC K C) (hs : mg "super" = none) (ho : PySem.W.nsIn K cStatics "thirdparty.any" = some none) (ini : PX.xIniB K C g "index" = true)
    (l : K.lookup g = some ⟨oc, od, .func (PySem.W.ksFn "__init__" "InvalidParts.__init__" (C8.fnArgs sx_InvalidParts) (C8.fnBody sx_InvalidParts) (C8.fnScope sx_InvalidParts) .none kV dc pm an (.ref cda) ct cc), sl⟩) (c : PySem.W.codeIn K (.ref cda) "InvalidParts.__init__" = true)
    (lc : K.lookup cda = some ⟨ccl, cdd, .fields vs, ccs⟩) (hv : vs[2]? = some (.str file tf)) (hw : ((P.main.file : Str) == file) = true) (lz : K.lookup cc = some ⟨cl, cld, .cell (some (.ref C)), csl⟩) (top : (P.main.scope.names.lookup ("super" : Str)).isSome = false) : PX.XInit P K mg C g "index" := by
  obtain ⟨⟨a1, a2⟩, a3, a4, a5, a6⟩ := PX.xIni_ok ini
  exact ⟨T, a1, a2, hs, a3, ho, a4, a5, a6, top, by decide, by decide, ⟨_, _, _, _, _, _, _, _, _, _, _, _, _, _, _, _, _, _, _, _, _, _, _, _, _, _, _, l, c, ⟨_, _, _, _, _, _, lc, hv, hw⟩, ⟨_, _, _, lz⟩, ⟨_, rfl, rfl⟩, ⟨rfl, rfl, rfl, rfl, by decide +kernel, rfl, rfl, rfl⟩, by decide +kernel, fun s e u => .of_eq rfl, fun s e u => .of_eq rfl⟩⟩
abbrev sx_NotRisky : Stmt := inClass (top 29) 0
theorem mkx_NotRisky {P : Program} {K : PySem.W.Frag} {mg : Str → Option Value} {C g cda cc : Addr} {oc kV dc pm ct ccl cl : Value} {od an cdd cld : Option Addr} {sl ccs csl : Array (Option Value)} {vs : Array Value} {file : Str} {tf : Tok} (T : L2.OexC K C) (hs : mg "super" = none) (ho : PySem.W.nsIn K cStatics "thirdparty.any" = some none) (ini : PX.xIniB K C g "index" = true)
    (l : K.lookup g = some ⟨oc, od, .func (PySem.W.ksFn "__init__" "NotRisky.__init__" (C8.fnArgs sx_NotRisky) (C8.fnBody sx_NotRisky) (C8.fnScope sx_NotRisky) .none kV dc pm an (.ref cda) ct cc), sl⟩) (c : PySem.W.codeIn K (.ref cda) "NotRisky.__init__" = true)
    (lc : K.lookup cda = some ⟨ccl, cdd, .fields vs, ccs⟩) (hv : vs[2]? = some (.str file tf)) (hw : ((P.main.file : Str) == file) = true) (lz : K.lookup cc = some ⟨cl, cld, .cell (some (.ref C)), csl⟩) (top : (P.main.scope.names.lookup ("super" : Str)).isSome = false) : PX.XInit P K mg C g "index" := by
  obtain ⟨⟨a1, a2⟩, a3, a4, a5, a6⟩ := PX.xIni_ok ini
  exact ⟨T, a1, a2, hs, a3, ho, a4, a5, a6, top, by decide, by decide, ⟨_, _, _, _, _, _, _, _, _, _, _, _, _, _, _, _, _, _, _, _, _, _, _, _, _, _, _, l, c, ⟨_, _, _, _, _, _, lc, hv, hw⟩, ⟨_, _, _, lz⟩, ⟨_, rfl, rfl⟩, ⟨rfl, rfl, rfl, rfl, by decide +kernel, rfl, rfl, rfl⟩, by decide +kernel, fun s e u => .of_eq rfl, fun s e u => .of_eq rfl⟩⟩
abbrev sx_NeverDone : Stmt := inClass (top 30) 0
theorem mkx_NeverDone {P : Program} {K : PySem.W.Frag} {mg : Str → Option Value} {C g cda cc : Addr} {oc kV dc pm ct ccl cl : Value} {od an cdd cld : Option Addr} {sl ccs csl : Array (Option Value)} {vs : Array Value} {file : Str} {tf : Tok} (T : L2.OexC K C) (hs : mg "super" = none) (ho : PySem.W.nsIn K cStatics "thirdparty.any" = some none) (ini : PX.xIniB K C g "index" = true)
    (l : K.lookup g = some ⟨oc, od, .func (PySem.W.ksFn "__init__" "NeverDone.__init__" (C8.fnArgs sx_NeverDone) (C8.fnBody sx_NeverDone) (C8.fnScope sx_NeverDone) .none kV dc pm an (.ref cda) ct cc), sl⟩) (c : PySem.W.codeIn K (.ref cda) "NeverDone.__init__" = true)
    (lc : K.lookup cda = some ⟨ccl, cdd, .fields vs, ccs⟩) (hv : vs[2]? = some (.str file tf)) (hw : ((P.main.file : Str) == file) = true) (lz : K.lookup cc = some ⟨cl, cld, .cell (some (.ref C)), csl⟩) (top : (P.main.scope.names.lookup ("super" : Str)).isSome = false) : PX.XInit P K mg C g "index" := by
  obtain ⟨⟨a1, a2⟩, a3, a4, a5, a6⟩ := PX.xIni_ok ini
  exact ⟨T, a1, a2, hs, a3, ho, a4, a5, a6, top, by decide, by decide, ⟨_, _, _, _, _, _, _, _, _, _, _, _, _, _, _, _, _, _, _, _, _, _, _, _, _, _, _, l, c, ⟨_, _, _, _, _, _, lc, hv, hw⟩, ⟨_, _, _, lz⟩, ⟨_, rfl, rfl⟩, ⟨rfl, rfl, rfl, rfl, by decide +kernel, rfl, rfl, rfl⟩, by decide +kernel, fun s e u => .of_eq rfl, fun s e u => .of_eq rfl⟩⟩
abbrev sx_TooMany : Stmt := inClass (top 31) 0
theorem mkx_TooMany {P : Program} {K : PySem.W.Frag} {mg : Str → Option Value} {C g cda cc : Addr} {oc kV dc pm ct ccl cl : Value} {od an cdd cld : Option Addr} {sl ccs csl : Array (Option Value)} {vs : Array Value} {file : Str} {tf : Tok} (T : L2.OexC K C) (hs : mg "super" = none) (ho : PySem.W.nsIn K cStatics "thirdparty.any" = some none) (ini : PX.xIniB K C g "limit" = true)
    (l : K.lookup g = some ⟨oc, od, .func (PySem.W.ksFn "__init__" "TooMany.__init__" (C8.fnArgs sx_TooMany) (C8.fnBody sx_TooMany) (C8.fnScope sx_TooMany) .none kV dc pm an (.ref cda) ct cc), sl⟩) (c : PySem.W.codeIn K (.ref cda) "TooMany.__init__" = true)
    (lc : K.lookup cda = some ⟨ccl, cdd, .fields vs, ccs⟩) (hv : vs[2]? = some (.str file tf)) (hw : ((P.main.file : Str) == file) = true) (lz : K.lookup cc = some ⟨cl, cld, .cell (some (.ref C)), csl⟩) (top : (P.main.scope.names.lookup ("super" : Str)).isSome = false) : PX.XInit P K mg C g "limit" := by
  obtain ⟨⟨a1, a2⟩, a3, a4, a5, a6⟩ := PX.xIni_ok ini
  exact ⟨T, a1, a2, hs, a3, ho, a4, a5, a6, top, by decide, by decide, ⟨_, _, _, _, _, _, _, _, _, _, _, _, _, _, _, _, _, _, _, _, _, _, _, _, _, _, _, l, c, ⟨_, _, _, _, _, _, lc, hv, hw⟩, ⟨_, _, _, lz⟩, ⟨_, rfl, rfl⟩, ⟨rfl, rfl, rfl, rfl, by decide +kernel, rfl, rfl, rfl⟩, by decide +kernel, fun s e u => .of_eq rfl, fun s e u => .of_eq rfl⟩⟩
abbrev sx_Overdue : Stmt := inClass (top 32) 0
theorem mkx_Overdue {P : Program} {K : PySem.W.Frag} {mg : Str → Option Value} {C g cda cc : Addr} {oc kV dc pm ct ccl cl : Value} {od an cdd cld : Option Addr} {sl ccs csl : Array (Option Value)} {vs : Array Value} {file : Str} {tf : Tok} (T : L2.OexC K C) (hs : mg "super" = none) (ho : PySem.W.nsIn K cStatics "thirdparty.any" = some none) (ini : PX.xIniB K C g "path" = true)
    (l : K.lookup g = some ⟨oc, od, .func (PySem.W.ksFn "__init__" "Overdue.__init__" (C8.fnArgs sx_Overdue) (C8.fnBody sx_Overdue) (C8.fnScope sx_Overdue) .none kV dc pm an (.ref cda) ct cc), sl⟩) (c : PySem.W.codeIn K (.ref cda) "Overdue.__init__" = true)
    (lc : K.lookup cda = some ⟨ccl, cdd, .fields vs, ccs⟩) (hv : vs[2]? = some (.str file tf)) (hw : ((P.main.file : Str) == file) = true) (lz : K.lookup cc = some ⟨cl, cld, .cell (some (.ref C)), csl⟩) (top : (P.main.scope.names.lookup ("super" : Str)).isSome = false) : PX.XInit P K mg C g "path" := by
  obtain ⟨⟨a1, a2⟩, a3, a4, a5, a6⟩ := PX.xIni_ok ini
  exact ⟨T, a1, a2, hs, a3, ho, a4, a5, a6, top, by decide, by decide, ⟨_, _, _, _, _, _, _, _, _, _, _, _, _, _, _, _, _, _, _, _, _, _, _, _, _, _, _, l, c, ⟨_, _, _, _, _, _, lc, hv, hw⟩, ⟨_, _, _, lz⟩, ⟨_, rfl, rfl⟩, ⟨rfl, rfl, rfl, rfl, by decide +kernel, rfl, rfl, rfl⟩, by decide +kernel, fun s e u => .of_eq rfl, fun s e u => .of_eq rfl⟩⟩
end K88
namespace K88
open PySem PD L2
/-- what the top has written -/
structure Txt (P : Program) (K : PySem.W.Frag) (mg : Str → Option Value) (cl : Nat → Addr) (f : Nat → Addr) (fd : Nat → FuncData) : Prop where
  m0 : mg "_law_bag" = some (.ref (f 0))
  k0 : PySem.W.keepIn K (.ref (f 0)) = true
  d0 : C8.Fun K "_law_bag" "_law_bag" s_law_bag (f 0) (fd 0)
  b0 : Binds K (fd 0) ["cell", "k"] []
  m1 : mg "_law_draw" = some (.ref (f 1))
  k1 : PySem.W.keepIn K (.ref (f 1)) = true
  d1 : C8.Fun K "_law_draw" "_law_draw" s_law_draw (f 1) (fd 1)
  b1 : Binds K (fd 1) ["bag", "many"] []
  m2 : mg "_law_marks" = some (.ref (f 2))
  k2 : PySem.W.keepIn K (.ref (f 2)) = true
  d2 : C8.Fun K "_law_marks" "_law_marks" s_law_marks (f 2) (fd 2)
  b2 : Binds K (fd 2) ["e"] []
  m3 : mg "_law_fields_right" = some (.ref (f 3))
  k3 : PySem.W.keepIn K (.ref (f 3)) = true
  d3 : C8.Fun K "_law_fields_right" "_law_fields_right" s_law_fields_right (f 3) (fd 3)
  b3 : Binds K (fd 3) ["amount"] []
  m4 : mg "_law_right" = some (.ref (f 4))
  k4 : PySem.W.keepIn K (.ref (f 4)) = true
  d4 : C8.Fun K "_law_right" "_law_right" s_law_right (f 4) (fd 4)
  b4 : Binds K (fd 4) ["message", "amount"] []
  m5 : mg "law" = some (.ref (f 5))
  k5 : PySem.W.keepIn K (.ref (f 5)) = true
  d5 : C8.Fun K "law" "law" s_law (f 5) (fd 5)
  b5 : Binds K (fd 5) ["script"] []
  z_int : mg "int" = none
  z_isinstance : mg "isinstance" = none
  z_len : mg "len" = none
  z_range : mg "range" = none
  z_ValueError : mg "ValueError" = none
  z_super : mg "super" = none
  xq0 : mg "PlanError" = some (.ref (cl 500))
  xq1 : mg "InvalidFraction" = some (.ref (cl 501))
  xq2 : mg "InvalidRow" = some (.ref (cl 502))
  xq3 : mg "InvalidTick" = some (.ref (cl 503))
  xq4 : mg "InvalidName" = some (.ref (cl 504))
  xq5 : mg "InvalidTask" = some (.ref (cl 505))
  xq6 : mg "InvalidPath" = some (.ref (cl 506))
  xq7 : mg "InvalidCourse" = some (.ref (cl 507))
  xq8 : mg "InvalidWeights" = some (.ref (cl 508))
  xq9 : mg "InvalidKind" = some (.ref (cl 509))
  xq10 : mg "InvalidArrows" = some (.ref (cl 510))
  xq11 : mg "InvalidChains" = some (.ref (cl 511))
  xq12 : mg "InvalidShare" = some (.ref (cl 512))
  xq13 : mg "InvalidNames" = some (.ref (cl 513))
  xq14 : mg "InvalidNumber" = some (.ref (cl 514))
  xq15 : mg "InvalidBeginning" = some (.ref (cl 515))
  xq16 : mg "InvalidWord" = some (.ref (cl 516))
  xq17 : mg "InvalidEnd" = some (.ref (cl 517))
  xq18 : mg "NothingRuns" = some (.ref (cl 518))
  xq19 : mg "NothingToUndo" = some (.ref (cl 519))
  xq20 : mg "NotSafe" = some (.ref (cl 520))
  xq21 : mg "InvalidTasks" = some (.ref (cl 521))
  xq22 : mg "InvalidPlan" = some (.ref (cl 522))
  xq23 : mg "TooLarge" = some (.ref (cl 523))
  xq24 : mg "InvalidText" = some (.ref (cl 524))
  xq25 : mg "InvalidLine" = some (.ref (cl 525))
  xq26 : mg "InvalidFates" = some (.ref (cl 526))
  xq27 : mg "InvalidParts" = some (.ref (cl 527))
  xq28 : mg "NotRisky" = some (.ref (cl 528))
  xq29 : mg "NeverDone" = some (.ref (cl 529))
  xq30 : mg "TooMany" = some (.ref (cl 530))
  xq31 : mg "Overdue" = some (.ref (cl 531))
  xcl : ∀ c, c < 32 → PX.XCls K (cl 500) (cl (c + 500))
  xnd : ∀ c c', c < 32 → c' < 32 → cl (c + 500) = cl (c' + 500) → c = c'
  xsp : PySem.W.specialIn K (.builtin "object.__class__") "__get__" = some (some (.builtin "getset_descriptor.__get__"))
  xtk : PySem.W.takesIn K (.builtin "object.__class__") = some true
  xn0 : PySem.W.excIn K (cl 500) PySem.HandSPX.veTail "ValueError.__new__" = true
  xn1 : PySem.W.excIn K (cl 501) PySem.HandSPX.veTail "ValueError.__new__" = true
  xn2 : PySem.W.excIn K (cl 502) PySem.HandSPX.veTail "ValueError.__new__" = true
  xn3 : PySem.W.excIn K (cl 503) PySem.HandSPX.veTail "ValueError.__new__" = true
  xn4 : PySem.W.excIn K (cl 504) PySem.HandSPX.veTail "ValueError.__new__" = true
  xn5 : PySem.W.excIn K (cl 505) PySem.HandSPX.veTail "ValueError.__new__" = true
  xn6 : PySem.W.excIn K (cl 506) PySem.HandSPX.veTail "ValueError.__new__" = true
  xn7 : PySem.W.excIn K (cl 507) PySem.HandSPX.veTail "ValueError.__new__" = true
  xn8 : PySem.W.excIn K (cl 508) PySem.HandSPX.veTail "ValueError.__new__" = true
  xn9 : PySem.W.excIn K (cl 509) PySem.HandSPX.veTail "ValueError.__new__" = true
  xn10 : PySem.W.excIn K (cl 510) PySem.HandSPX.veTail "ValueError.__new__" = true
  xn11 : PySem.W.excIn K (cl 511) PySem.HandSPX.veTail "ValueError.__new__" = true
  xn12 : PySem.W.excIn K (cl 512) PySem.HandSPX.veTail "ValueError.__new__" = true
  xn13 : PySem.W.excIn K (cl 513) PySem.HandSPX.veTail "ValueError.__new__" = true
  xn14 : PySem.W.excIn K (cl 514) PySem.HandSPX.veTail "ValueError.__new__" = true
  xn15 : PySem.W.excIn K (cl 515) PySem.HandSPX.veTail "ValueError.__new__" = true
  xn16 : PySem.W.excIn K (cl 516) PySem.HandSPX.veTail "ValueError.__new__" = true
  xn17 : PySem.W.excIn K (cl 517) PySem.HandSPX.veTail "ValueError.__new__" = true
  xn18 : PySem.W.excIn K (cl 518) PySem.HandSPX.veTail "ValueError.__new__" = true
  xn19 : PySem.W.excIn K (cl 519) PySem.HandSPX.veTail "ValueError.__new__" = true
  xn20 : PySem.W.excIn K (cl 520) PySem.HandSPX.veTail "ValueError.__new__" = true
  xi21 : ∃ fI, PX.XInit P K mg (cl 521) fI "name"
  xi22 : ∃ fI, PX.XInit P K mg (cl 522) fI "path"
  xi23 : ∃ fI, PX.XInit P K mg (cl 523) fI "number"
  xi24 : ∃ fI, PX.XInit P K mg (cl 524) fI "index"
  xi25 : ∃ fI, PX.XInit P K mg (cl 525) fI "line"
  xi26 : ∃ fI, PX.XInit P K mg (cl 526) fI "path"
  xi27 : ∃ fI, PX.XInit P K mg (cl 527) fI "index"
  xi28 : ∃ fI, PX.XInit P K mg (cl 528) fI "index"
  xi29 : ∃ fI, PX.XInit P K mg (cl 529) fI "index"
  xi30 : ∃ fI, PX.XInit P K mg (cl 530) fI "limit"
  xi31 : ∃ fI, PX.XInit P K mg (cl 531) fI "path"
theorem gather {P : Program} {K : PySem.W.Frag} {h : Heap} {mg : Str → Option Value} {fa : Addr} (X : K.In h) (G : h.Ns mainGlobals mg) (hfa : mg "law" = some (.ref fa))
    {f0 : Addr} {oc0 kV0 dc0 pm0 cd0 ct0 : Value} {od0 an0 : Option Addr} {sl0 : Array (Option Value)}
    {f1 : Addr} {oc1 kV1 dc1 pm1 cd1 ct1 : Value} {od1 an1 : Option Addr} {sl1 : Array (Option Value)}
    {f2 : Addr} {oc2 kV2 dc2 pm2 cd2 ct2 : Value} {od2 an2 : Option Addr} {sl2 : Array (Option Value)}
    {f3 : Addr} {oc3 kV3 dc3 pm3 cd3 ct3 : Value} {od3 an3 : Option Addr} {sl3 : Array (Option Value)}
    {f4 : Addr} {oc4 kV4 dc4 pm4 cd4 ct4 : Value} {od4 an4 : Option Addr} {sl4 : Array (Option Value)}
    {f5 : Addr} {oc5 kV5 dc5 pm5 cd5 ct5 : Value} {od5 an5 : Option Addr} {sl5 : Array (Option Value)}
    {X0 : Addr}
    {X1 : Addr}
    {X2 : Addr}
    {X3 : Addr}
    {X4 : Addr}
    {X5 : Addr}
    {X6 : Addr}
    {X7 : Addr}
    {X8 : Addr}
    {X9 : Addr}
    {X10 : Addr}
    {X11 : Addr}
    {X12 : Addr}
    {X13 : Addr}
    {X14 : Addr}
    {X15 : Addr}
    {X16 : Addr}
    {X17 : Addr}
    {X18 : Addr}
    {X19 : Addr}
    {X20 : Addr}
    {X21 : Addr}
    {X22 : Addr}
    {X23 : Addr}
    {X24 : Addr}
    {X25 : Addr}
    {X26 : Addr}
    {X27 : Addr}
    {X28 : Addr}
    {X29 : Addr}
    {X30 : Addr}
    {X31 : Addr}
    {g21 cda21 cc21 : Addr} {ocx21 kVx21 dcx21 pmx21 ctx21 cclx21 clx21 : Value} {odx21 anx21 cddx21 cldx21 : Option Addr} {slx21 ccsx21 cslx21 : Array (Option Value)} {vsx21 : Array Value} {file21 : Str} {tf21 : Tok}
    {g22 cda22 cc22 : Addr} {ocx22 kVx22 dcx22 pmx22 ctx22 cclx22 clx22 : Value} {odx22 anx22 cddx22 cldx22 : Option Addr} {slx22 ccsx22 cslx22 : Array (Option Value)} {vsx22 : Array Value} {file22 : Str} {tf22 : Tok}
    {g23 cda23 cc23 : Addr} {ocx23 kVx23 dcx23 pmx23 ctx23 cclx23 clx23 : Value} {odx23 anx23 cddx23 cldx23 : Option Addr} {slx23 ccsx23 cslx23 : Array (Option Value)} {vsx23 : Array Value} {file23 : Str} {tf23 : Tok}
    {g24 cda24 cc24 : Addr} {ocx24 kVx24 dcx24 pmx24 ctx24 cclx24 clx24 : Value} {odx24 anx24 cddx24 cldx24 : Option Addr} {slx24 ccsx24 cslx24 : Array (Option Value)} {vsx24 : Array Value} {file24 : Str} {tf24 : Tok}
    {g25 cda25 cc25 : Addr} {ocx25 kVx25 dcx25 pmx25 ctx25 cclx25 clx25 : Value} {odx25 anx25 cddx25 cldx25 : Option Addr} {slx25 ccsx25 cslx25 : Array (Option Value)} {vsx25 : Array Value} {file25 : Str} {tf25 : Tok}
    {g26 cda26 cc26 : Addr} {ocx26 kVx26 dcx26 pmx26 ctx26 cclx26 clx26 : Value} {odx26 anx26 cddx26 cldx26 : Option Addr} {slx26 ccsx26 cslx26 : Array (Option Value)} {vsx26 : Array Value} {file26 : Str} {tf26 : Tok}
    {g27 cda27 cc27 : Addr} {ocx27 kVx27 dcx27 pmx27 ctx27 cclx27 clx27 : Value} {odx27 anx27 cddx27 cldx27 : Option Addr} {slx27 ccsx27 cslx27 : Array (Option Value)} {vsx27 : Array Value} {file27 : Str} {tf27 : Tok}
    {g28 cda28 cc28 : Addr} {ocx28 kVx28 dcx28 pmx28 ctx28 cclx28 clx28 : Value} {odx28 anx28 cddx28 cldx28 : Option Addr} {slx28 ccsx28 cslx28 : Array (Option Value)} {vsx28 : Array Value} {file28 : Str} {tf28 : Tok}
    {g29 cda29 cc29 : Addr} {ocx29 kVx29 dcx29 pmx29 ctx29 cclx29 clx29 : Value} {odx29 anx29 cddx29 cldx29 : Option Addr} {slx29 ccsx29 cslx29 : Array (Option Value)} {vsx29 : Array Value} {file29 : Str} {tf29 : Tok}
    {g30 cda30 cc30 : Addr} {ocx30 kVx30 dcx30 pmx30 ctx30 cclx30 clx30 : Value} {odx30 anx30 cddx30 cldx30 : Option Addr} {slx30 ccsx30 cslx30 : Array (Option Value)} {vsx30 : Array Value} {file30 : Str} {tf30 : Tok}
    {g31 cda31 cc31 : Addr} {ocx31 kVx31 dcx31 pmx31 ctx31 cclx31 clx31 : Value} {odx31 anx31 cddx31 cldx31 : Option Addr} {slx31 ccsx31 cslx31 : Array (Option Value)} {vsx31 : Array Value} {file31 : Str} {tf31 : Tok}
    (a0 : PySem.W.nsIn K mainGlobals "_law_bag" = some (some (.ref f0)))
    (l0 : K.lookup f0 = some ⟨oc0, od0, .func (PySem.W.fnOf "_law_bag" "_law_bag" (C8.fnArgs s_law_bag) (C8.fnBody s_law_bag) (C8.fnScope s_law_bag) .none kV0 dc0 pm0 an0 cd0 ct0), sl0⟩)
    (c0 : PySem.W.codeIn K cd0 "_law_bag" = true)
    (k0 : PySem.W.keepIn K (.ref f0) = true)
    (a1 : PySem.W.nsIn K mainGlobals "_law_draw" = some (some (.ref f1)))
    (l1 : K.lookup f1 = some ⟨oc1, od1, .func (PySem.W.fnOf "_law_draw" "_law_draw" (C8.fnArgs s_law_draw) (C8.fnBody s_law_draw) (C8.fnScope s_law_draw) .none kV1 dc1 pm1 an1 cd1 ct1), sl1⟩)
    (c1 : PySem.W.codeIn K cd1 "_law_draw" = true)
    (k1 : PySem.W.keepIn K (.ref f1) = true)
    (a2 : PySem.W.nsIn K mainGlobals "_law_marks" = some (some (.ref f2)))
    (l2 : K.lookup f2 = some ⟨oc2, od2, .func (PySem.W.fnOf "_law_marks" "_law_marks" (C8.fnArgs s_law_marks) (C8.fnBody s_law_marks) (C8.fnScope s_law_marks) .none kV2 dc2 pm2 an2 cd2 ct2), sl2⟩)
    (c2 : PySem.W.codeIn K cd2 "_law_marks" = true)
    (k2 : PySem.W.keepIn K (.ref f2) = true)
    (a3 : PySem.W.nsIn K mainGlobals "_law_fields_right" = some (some (.ref f3)))
    (l3 : K.lookup f3 = some ⟨oc3, od3, .func (PySem.W.fnOf "_law_fields_right" "_law_fields_right" (C8.fnArgs s_law_fields_right) (C8.fnBody s_law_fields_right) (C8.fnScope s_law_fields_right) .none kV3 dc3 pm3 an3 cd3 ct3), sl3⟩)
    (c3 : PySem.W.codeIn K cd3 "_law_fields_right" = true)
    (k3 : PySem.W.keepIn K (.ref f3) = true)
    (a4 : PySem.W.nsIn K mainGlobals "_law_right" = some (some (.ref f4)))
    (l4 : K.lookup f4 = some ⟨oc4, od4, .func (PySem.W.fnOf "_law_right" "_law_right" (C8.fnArgs s_law_right) (C8.fnBody s_law_right) (C8.fnScope s_law_right) .none kV4 dc4 pm4 an4 cd4 ct4), sl4⟩)
    (c4 : PySem.W.codeIn K cd4 "_law_right" = true)
    (k4 : PySem.W.keepIn K (.ref f4) = true)
    (a5 : PySem.W.nsIn K mainGlobals "law" = some (some (.ref f5)))
    (l5 : K.lookup f5 = some ⟨oc5, od5, .func (PySem.W.fnOf "law" "law" (C8.fnArgs s_law) (C8.fnBody s_law) (C8.fnScope s_law) .none kV5 dc5 pm5 an5 cd5 ct5), sl5⟩)
    (c5 : PySem.W.codeIn K cd5 "law" = true)
    (k5 : PySem.W.keepIn K (.ref f5) = true)
    (z_int : PySem.W.nsIn K mainGlobals "int" = some none)
    (z_isinstance : PySem.W.nsIn K mainGlobals "isinstance" = some none)
    (z_len : PySem.W.nsIn K mainGlobals "len" = some none)
    (z_range : PySem.W.nsIn K mainGlobals "range" = some none)
    (z_ValueError : PySem.W.nsIn K mainGlobals "ValueError" = some none)
    (z_super : PySem.W.nsIn K mainGlobals "super" = some none)
    (qx0 : PySem.W.nsIn K mainGlobals "PlanError" = some (some (.ref X0)))
    (qx1 : PySem.W.nsIn K mainGlobals "InvalidFraction" = some (some (.ref X1)))
    (qx2 : PySem.W.nsIn K mainGlobals "InvalidRow" = some (some (.ref X2)))
    (qx3 : PySem.W.nsIn K mainGlobals "InvalidTick" = some (some (.ref X3)))
    (qx4 : PySem.W.nsIn K mainGlobals "InvalidName" = some (some (.ref X4)))
    (qx5 : PySem.W.nsIn K mainGlobals "InvalidTask" = some (some (.ref X5)))
    (qx6 : PySem.W.nsIn K mainGlobals "InvalidPath" = some (some (.ref X6)))
    (qx7 : PySem.W.nsIn K mainGlobals "InvalidCourse" = some (some (.ref X7)))
    (qx8 : PySem.W.nsIn K mainGlobals "InvalidWeights" = some (some (.ref X8)))
    (qx9 : PySem.W.nsIn K mainGlobals "InvalidKind" = some (some (.ref X9)))
    (qx10 : PySem.W.nsIn K mainGlobals "InvalidArrows" = some (some (.ref X10)))
    (qx11 : PySem.W.nsIn K mainGlobals "InvalidChains" = some (some (.ref X11)))
    (qx12 : PySem.W.nsIn K mainGlobals "InvalidShare" = some (some (.ref X12)))
    (qx13 : PySem.W.nsIn K mainGlobals "InvalidNames" = some (some (.ref X13)))
    (qx14 : PySem.W.nsIn K mainGlobals "InvalidNumber" = some (some (.ref X14)))
    (qx15 : PySem.W.nsIn K mainGlobals "InvalidBeginning" = some (some (.ref X15)))
    (qx16 : PySem.W.nsIn K mainGlobals "InvalidWord" = some (some (.ref X16)))
    (qx17 : PySem.W.nsIn K mainGlobals "InvalidEnd" = some (some (.ref X17)))
    (qx18 : PySem.W.nsIn K mainGlobals "NothingRuns" = some (some (.ref X18)))
    (qx19 : PySem.W.nsIn K mainGlobals "NothingToUndo" = some (some (.ref X19)))
    (qx20 : PySem.W.nsIn K mainGlobals "NotSafe" = some (some (.ref X20)))
    (qx21 : PySem.W.nsIn K mainGlobals "InvalidTasks" = some (some (.ref X21)))
    (qx22 : PySem.W.nsIn K mainGlobals "InvalidPlan" = some (some (.ref X22)))
    (qx23 : PySem.W.nsIn K mainGlobals "TooLarge" = some (some (.ref X23)))
    (qx24 : PySem.W.nsIn K mainGlobals "InvalidText" = some (some (.ref X24)))
    (qx25 : PySem.W.nsIn K mainGlobals "InvalidLine" = some (some (.ref X25)))
    (qx26 : PySem.W.nsIn K mainGlobals "InvalidFates" = some (some (.ref X26)))
    (qx27 : PySem.W.nsIn K mainGlobals "InvalidParts" = some (some (.ref X27)))
    (qx28 : PySem.W.nsIn K mainGlobals "NotRisky" = some (some (.ref X28)))
    (qx29 : PySem.W.nsIn K mainGlobals "NeverDone" = some (some (.ref X29)))
    (qx30 : PySem.W.nsIn K mainGlobals "TooMany" = some (some (.ref X30)))
    (qx31 : PySem.W.nsIn K mainGlobals "Overdue" = some (some (.ref X31)))
    (xall : PX.xAllB K X0 [X0, X1, X2, X3, X4, X5, X6, X7, X8, X9, X10, X11, X12, X13, X14, X15, X16, X17, X18, X19, X20, X21, X22, X23, X24, X25, X26, X27, X28, X29, X30, X31] = true)
    (xndp : ([X0, X1, X2, X3, X4, X5, X6, X7, X8, X9, X10, X11, X12, X13, X14, X15, X16, X17, X18, X19, X20, X21, X22, X23, X24, X25, X26, X27, X28, X29, X30, X31] : List Addr).Nodup)
    (xnob : ([X0, X1, X2, X3, X4, X5, X6, X7, X8, X9, X10, X11, X12, X13, X14, X15, X16, X17, X18, X19, X20] : List Addr).all (fun C => PySem.W.excIn K C PySem.HandSPX.veTail "ValueError.__new__") = true)
    (xsp : PySem.W.specialIn K (.builtin "object.__class__") "__get__" = some (some (.builtin "getset_descriptor.__get__")))
    (xtk : PySem.W.takesIn K (.builtin "object.__class__") = some true)
    (xst : PySem.W.nsIn K cStatics "thirdparty.any" = some none)
    (xtop : (P.main.scope.names.lookup ("super" : Str)).isSome = false)
    (xa21 : PySem.W.findIn K (.ref X21) "__init__" = some (some (.ref g21)))
    (xl21 : K.lookup g21 = some ⟨ocx21, odx21, .func (PySem.W.ksFn "__init__" "InvalidTasks.__init__" (C8.fnArgs sx_InvalidTasks) (C8.fnBody sx_InvalidTasks) (C8.fnScope sx_InvalidTasks) .none kVx21 dcx21 pmx21 anx21 (.ref cda21) ctx21 cc21), slx21⟩)
    (xc21 : PySem.W.codeIn K (.ref cda21) "InvalidTasks.__init__" = true)
    (xk21 : K.lookup cda21 = some ⟨cclx21, cddx21, .fields vsx21, ccsx21⟩)
    (xv21 : vsx21[2]? = some (.str file21 tf21))
    (xw21 : ((P.main.file : Str) == file21) = true)
    (xz21 : K.lookup cc21 = some ⟨clx21, cldx21, .cell (some (.ref X21)), cslx21⟩)
    (xi21 : PX.xIniB K X21 g21 "name" = true)
    (xa22 : PySem.W.findIn K (.ref X22) "__init__" = some (some (.ref g22)))
    (xl22 : K.lookup g22 = some ⟨ocx22, odx22, .func (PySem.W.ksFn "__init__" "InvalidPlan.__init__" (C8.fnArgs sx_InvalidPlan) (C8.fnBody sx_InvalidPlan) (C8.fnScope sx_InvalidPlan) .none kVx22 dcx22 pmx22 anx22 (.ref cda22) ctx22 cc22), slx22⟩)
    (xc22 : PySem.W.codeIn K (.ref cda22) "InvalidPlan.__init__" = true)
    (xk22 : K.lookup cda22 = some ⟨cclx22, cddx22, .fields vsx22, ccsx22⟩)
    (xv22 : vsx22[2]? = some (.str file22 tf22))
    (xw22 : ((P.main.file : Str) == file22) = true)
    (xz22 : K.lookup cc22 = some ⟨clx22, cldx22, .cell (some (.ref X22)), cslx22⟩)
    (xi22 : PX.xIniB K X22 g22 "path" = true)
    (xa23 : PySem.W.findIn K (.ref X23) "__init__" = some (some (.ref g23)))
    (xl23 : K.lookup g23 = some ⟨ocx23, odx23, .func (PySem.W.ksFn "__init__" "TooLarge.__init__" (C8.fnArgs sx_TooLarge) (C8.fnBody sx_TooLarge) (C8.fnScope sx_TooLarge) .none kVx23 dcx23 pmx23 anx23 (.ref cda23) ctx23 cc23), slx23⟩)
    (xc23 : PySem.W.codeIn K (.ref cda23) "TooLarge.__init__" = true)
    (xk23 : K.lookup cda23 = some ⟨cclx23, cddx23, .fields vsx23, ccsx23⟩)
    (xv23 : vsx23[2]? = some (.str file23 tf23))
    (xw23 : ((P.main.file : Str) == file23) = true)
    (xz23 : K.lookup cc23 = some ⟨clx23, cldx23, .cell (some (.ref X23)), cslx23⟩)
    (xi23 : PX.xIniB K X23 g23 "number" = true)
    (xa24 : PySem.W.findIn K (.ref X24) "__init__" = some (some (.ref g24)))
    (xl24 : K.lookup g24 = some ⟨ocx24, odx24, .func (PySem.W.ksFn "__init__" "InvalidText.__init__" (C8.fnArgs sx_InvalidText) (C8.fnBody sx_InvalidText) (C8.fnScope sx_InvalidText) .none kVx24 dcx24 pmx24 anx24 (.ref cda24) ctx24 cc24), slx24⟩)
    (xc24 : PySem.W.codeIn K (.ref cda24) "InvalidText.__init__" = true)
    (xk24 : K.lookup cda24 = some ⟨cclx24, cddx24, .fields vsx24, ccsx24⟩)
    (xv24 : vsx24[2]? = some (.str file24 tf24))
    (xw24 : ((P.main.file : Str) == file24) = true)
    (xz24 : K.lookup cc24 = some ⟨clx24, cldx24, .cell (some (.ref X24)), cslx24⟩)
    (xi24 : PX.xIniB K X24 g24 "index" = true)
    (xa25 : PySem.W.findIn K (.ref X25) "__init__" = some (some (.ref g25)))
    (xl25 : K.lookup g25 = some ⟨ocx25, odx25, .func (PySem.W.ksFn "__init__" "InvalidLine.__init__" (C8.fnArgs sx_InvalidLine) (C8.fnBody sx_InvalidLine) (C8.fnScope sx_InvalidLine) .none kVx25 dcx25 pmx25 anx25 (.ref cda25) ctx25 cc25), slx25⟩)
    (xc25 : PySem.W.codeIn K (.ref cda25) "InvalidLine.__init__" = true)
    (xk25 : K.lookup cda25 = some ⟨cclx25, cddx25, .fields vsx25, ccsx25⟩)
    (xv25 : vsx25[2]? = some (.str file25 tf25))
    (xw25 : ((P.main.file : Str) == file25) = true)
    (xz25 : K.lookup cc25 = some ⟨clx25, cldx25, .cell (some (.ref X25)), cslx25⟩)
    (xi25 : PX.xIniB K X25 g25 "line" = true)
    (xa26 : PySem.W.findIn K (.ref X26) "__init__" = some (some (.ref g26)))
    (xl26 : K.lookup g26 = some ⟨ocx26, odx26, .func (PySem.W.ksFn "__init__" "InvalidFates.__init__" (C8.fnArgs sx_InvalidFates) (C8.fnBody sx_InvalidFates) (C8.fnScope sx_InvalidFates) .none kVx26 dcx26 pmx26 anx26 (.ref cda26) ctx26 cc26), slx26⟩)
    (xc26 : PySem.W.codeIn K (.ref cda26) "InvalidFates.__init__" = true)
    (xk26 : K.lookup cda26 = some ⟨cclx26, cddx26, .fields vsx26, ccsx26⟩)
    (xv26 : vsx26[2]? = some (.str file26 tf26))
    (xw26 : ((P.main.file : Str) == file26) = true)
    (xz26 : K.lookup cc26 = some ⟨clx26, cldx26, .cell (some (.ref X26)), cslx26⟩)
    (xi26 : PX.xIniB K X26 g26 "path" = true)
    (xa27 : PySem.W.findIn K (.ref X27) "__init__" = some (some (.ref g27)))
    (xl27 : K.lookup g27 = some ⟨ocx27, odx27, .func (PySem.W.ksFn "__init__" "InvalidParts.__init__" (C8.fnArgs sx_InvalidParts) (C8.fnBody sx_InvalidParts) (C8.fnScope sx_InvalidParts) .none kVx27 dcx27 pmx27 anx27 (.ref cda27) ctx27 cc27), slx27⟩)
    (xc27 : PySem.W.codeIn K (.ref cda27) "InvalidParts.__init__" = true)
    (xk27 : K.lookup cda27 = some ⟨cclx27, cddx27, .fields vsx27, ccsx27⟩)
    (xv27 : vsx27[2]? = some (.str file27 tf27))
    (xw27 : ((P.main.file : Str) == file27) = true)
    (xz27 : K.lookup cc27 = some ⟨clx27, cldx27, .cell (some (.ref X27)), cslx27⟩)
    (xi27 : PX.xIniB K X27 g27 "index" = true)
    (xa28 : PySem.W.findIn K (.ref X28) "__init__" = some (some (.ref g28)))
    (xl28 : K.lookup g28 = some ⟨ocx28, odx28, .func (PySem.W.ksFn "__init__" "NotRisky.__init__" (C8.fnArgs sx_NotRisky) (C8.fnBody sx_NotRisky) (C8.fnScope sx_NotRisky) .none kVx28 dcx28 pmx28 anx28 (.ref cda28) ctx28 cc28), slx28⟩)
    (xc28 : PySem.W.codeIn K (.ref cda28) "NotRisky.__init__" = true)
    (xk28 : K.lookup cda28 = some ⟨cclx28, cddx28, .fields vsx28, ccsx28⟩)
    (xv28 : vsx28[2]? = some (.str file28 tf28))
    (xw28 : ((P.main.file : Str) == file28) = true)
    (xz28 : K.lookup cc28 = some ⟨clx28, cldx28, .cell (some (.ref X28)), cslx28⟩)
    (xi28 : PX.xIniB K X28 g28 "index" = true)
    (xa29 : PySem.W.findIn K (.ref X29) "__init__" = some (some (.ref g29)))
    (xl29 : K.lookup g29 = some ⟨ocx29, odx29, .func (PySem.W.ksFn "__init__" "NeverDone.__init__" (C8.fnArgs sx_NeverDone) (C8.fnBody sx_NeverDone) (C8.fnScope sx_NeverDone) .none kVx29 dcx29 pmx29 anx29 (.ref cda29) ctx29 cc29), slx29⟩)
    (xc29 : PySem.W.codeIn K (.ref cda29) "NeverDone.__init__" = true)
    (xk29 : K.lookup cda29 = some ⟨cclx29, cddx29, .fields vsx29, ccsx29⟩)
    (xv29 : vsx29[2]? = some (.str file29 tf29))
    (xw29 : ((P.main.file : Str) == file29) = true)
    (xz29 : K.lookup cc29 = some ⟨clx29, cldx29, .cell (some (.ref X29)), cslx29⟩)
    (xi29 : PX.xIniB K X29 g29 "index" = true)
    (xa30 : PySem.W.findIn K (.ref X30) "__init__" = some (some (.ref g30)))
    (xl30 : K.lookup g30 = some ⟨ocx30, odx30, .func (PySem.W.ksFn "__init__" "TooMany.__init__" (C8.fnArgs sx_TooMany) (C8.fnBody sx_TooMany) (C8.fnScope sx_TooMany) .none kVx30 dcx30 pmx30 anx30 (.ref cda30) ctx30 cc30), slx30⟩)
    (xc30 : PySem.W.codeIn K (.ref cda30) "TooMany.__init__" = true)
    (xk30 : K.lookup cda30 = some ⟨cclx30, cddx30, .fields vsx30, ccsx30⟩)
    (xv30 : vsx30[2]? = some (.str file30 tf30))
    (xw30 : ((P.main.file : Str) == file30) = true)
    (xz30 : K.lookup cc30 = some ⟨clx30, cldx30, .cell (some (.ref X30)), cslx30⟩)
    (xi30 : PX.xIniB K X30 g30 "limit" = true)
    (xa31 : PySem.W.findIn K (.ref X31) "__init__" = some (some (.ref g31)))
    (xl31 : K.lookup g31 = some ⟨ocx31, odx31, .func (PySem.W.ksFn "__init__" "Overdue.__init__" (C8.fnArgs sx_Overdue) (C8.fnBody sx_Overdue) (C8.fnScope sx_Overdue) .none kVx31 dcx31 pmx31 anx31 (.ref cda31) ctx31 cc31), slx31⟩)
    (xc31 : PySem.W.codeIn K (.ref cda31) "Overdue.__init__" = true)
    (xk31 : K.lookup cda31 = some ⟨cclx31, cddx31, .fields vsx31, ccsx31⟩)
    (xv31 : vsx31[2]? = some (.str file31 tf31))
    (xw31 : ((P.main.file : Str) == file31) = true)
    (xz31 : K.lookup cc31 = some ⟨clx31, cldx31, .cell (some (.ref X31)), cslx31⟩)
    (xi31 : PX.xIniB K X31 g31 "path" = true) :
    ∃ (cl f : Nat → Addr) (fd : Nat → FuncData), f 5 = fa ∧ (∀ (s : Shared) (v : Value), BindsTo s (fd 5) ⟨[v], []⟩ [("script", v)]) ∧ Txt P K mg cl f fd := by
  have e := hfa.symm.trans (PySem.W.mg_of X G a5)
  cases e
  obtain ⟨fd0, g0⟩ := mk_law_bag l0 c0
  obtain ⟨fd1, g1⟩ := mk_law_draw l1 c1
  obtain ⟨fd2, g2⟩ := mk_law_marks l2 c2
  obtain ⟨fd3, g3⟩ := mk_law_fields_right l3 c3
  obtain ⟨fd4, g4⟩ := mk_law_right l4 c4
  obtain ⟨fd5, g5⟩ := mk_law l5 c5
  refine ⟨fun i => if i < 500 then ([] : List Addr).getD i 0 else ([X0, X1, X2, X3, X4, X5, X6, X7, X8, X9, X10, X11, X12, X13, X14, X15, X16, X17, X18, X19, X20, X21, X22, X23, X24, X25, X26, X27, X28, X29, X30, X31] : List Addr).getD (i - 500) 0, fun i => [f0, f1, f2, f3, f4, fa].getD i 0, fun i => [fd0, fd1, fd2, fd3, fd4, fd5].getD i fd5, rfl, fun s v => ?_, ?_⟩
  · exact g5.2.2 s v
  · exact {
      m0 := PySem.W.mg_of X G a0
      k0 := k0
      d0 := g0.1
      b0 := g0.2
      m1 := PySem.W.mg_of X G a1
      k1 := k1
      d1 := g1.1
      b1 := g1.2
      m2 := PySem.W.mg_of X G a2
      k2 := k2
      d2 := g2.1
      b2 := g2.2
      m3 := PySem.W.mg_of X G a3
      k3 := k3
      d3 := g3.1
      b3 := g3.2
      m4 := PySem.W.mg_of X G a4
      k4 := k4
      d4 := g4.1
      b4 := g4.2
      m5 := PySem.W.mg_of X G a5
      k5 := k5
      d5 := g5.1
      b5 := g5.2.1
      z_int := PySem.W.mg_none_of X G z_int
      z_isinstance := PySem.W.mg_none_of X G z_isinstance
      z_len := PySem.W.mg_none_of X G z_len
      z_range := PySem.W.mg_none_of X G z_range
      z_ValueError := PySem.W.mg_none_of X G z_ValueError
      z_super := PySem.W.mg_none_of X G z_super
      xq0 := PySem.W.mg_of X G qx0
      xq1 := PySem.W.mg_of X G qx1
      xq2 := PySem.W.mg_of X G qx2
      xq3 := PySem.W.mg_of X G qx3
      xq4 := PySem.W.mg_of X G qx4
      xq5 := PySem.W.mg_of X G qx5
      xq6 := PySem.W.mg_of X G qx6
      xq7 := PySem.W.mg_of X G qx7
      xq8 := PySem.W.mg_of X G qx8
      xq9 := PySem.W.mg_of X G qx9
      xq10 := PySem.W.mg_of X G qx10
      xq11 := PySem.W.mg_of X G qx11
      xq12 := PySem.W.mg_of X G qx12
      xq13 := PySem.W.mg_of X G qx13
      xq14 := PySem.W.mg_of X G qx14
      xq15 := PySem.W.mg_of X G qx15
      xq16 := PySem.W.mg_of X G qx16
      xq17 := PySem.W.mg_of X G qx17
      xq18 := PySem.W.mg_of X G qx18
      xq19 := PySem.W.mg_of X G qx19
      xq20 := PySem.W.mg_of X G qx20
      xq21 := PySem.W.mg_of X G qx21
      xq22 := PySem.W.mg_of X G qx22
      xq23 := PySem.W.mg_of X G qx23
      xq24 := PySem.W.mg_of X G qx24
      xq25 := PySem.W.mg_of X G qx25
      xq26 := PySem.W.mg_of X G qx26
      xq27 := PySem.W.mg_of X G qx27
      xq28 := PySem.W.mg_of X G qx28
      xq29 := PySem.W.mg_of X G qx29
      xq30 := PySem.W.mg_of X G qx30
      xq31 := PySem.W.mg_of X G qx31
      xcl := fun c hc => by
        show PX.XCls K X0 (if c + 500 < 500 then _ else _)
        rw [if_neg (by omega), Nat.add_sub_cancel]
        exact PX.xAll_ok xall _ (PX.getD_mem hc)
      xnd := fun c c' h1 h2 h => by
        have h : (if c + 500 < 500 then _ else _) = (if c' + 500 < 500 then _ else _) := h
        rw [if_neg (by omega), if_neg (by omega), Nat.add_sub_cancel, Nat.add_sub_cancel] at h
        exact PX.getD_inj xndp h1 h2 h
      xsp := xsp
      xtk := xtk
      xn0 := List.all_eq_true.mp xnob _ (by simp)
      xn1 := List.all_eq_true.mp xnob _ (by simp)
      xn2 := List.all_eq_true.mp xnob _ (by simp)
      xn3 := List.all_eq_true.mp xnob _ (by simp)
      xn4 := List.all_eq_true.mp xnob _ (by simp)
      xn5 := List.all_eq_true.mp xnob _ (by simp)
      xn6 := List.all_eq_true.mp xnob _ (by simp)
      xn7 := List.all_eq_true.mp xnob _ (by simp)
      xn8 := List.all_eq_true.mp xnob _ (by simp)
      xn9 := List.all_eq_true.mp xnob _ (by simp)
      xn10 := List.all_eq_true.mp xnob _ (by simp)
      xn11 := List.all_eq_true.mp xnob _ (by simp)
      xn12 := List.all_eq_true.mp xnob _ (by simp)
      xn13 := List.all_eq_true.mp xnob _ (by simp)
      xn14 := List.all_eq_true.mp xnob _ (by simp)
      xn15 := List.all_eq_true.mp xnob _ (by simp)
      xn16 := List.all_eq_true.mp xnob _ (by simp)
      xn17 := List.all_eq_true.mp xnob _ (by simp)
      xn18 := List.all_eq_true.mp xnob _ (by simp)
      xn19 := List.all_eq_true.mp xnob _ (by simp)
      xn20 := List.all_eq_true.mp xnob _ (by simp)
      xi21 := ⟨g21, mkx_InvalidTasks (PX.xAll_ok xall _ (by simp)).o (PySem.W.mg_none_of X G z_super) xst xi21 xl21 xc21 xk21 xv21 xw21 xz21 xtop⟩
      xi22 := ⟨g22, mkx_InvalidPlan (PX.xAll_ok xall _ (by simp)).o (PySem.W.mg_none_of X G z_super) xst xi22 xl22 xc22 xk22 xv22 xw22 xz22 xtop⟩
      xi23 := ⟨g23, mkx_TooLarge (PX.xAll_ok xall _ (by simp)).o (PySem.W.mg_none_of X G z_super) xst xi23 xl23 xc23 xk23 xv23 xw23 xz23 xtop⟩
      xi24 := ⟨g24, mkx_InvalidText (PX.xAll_ok xall _ (by simp)).o (PySem.W.mg_none_of X G z_super) xst xi24 xl24 xc24 xk24 xv24 xw24 xz24 xtop⟩
      xi25 := ⟨g25, mkx_InvalidLine (PX.xAll_ok xall _ (by simp)).o (PySem.W.mg_none_of X G z_super) xst xi25 xl25 xc25 xk25 xv25 xw25 xz25 xtop⟩
      xi26 := ⟨g26, mkx_InvalidFates (PX.xAll_ok xall _ (by simp)).o (PySem.W.mg_none_of X G z_super) xst xi26 xl26 xc26 xk26 xv26 xw26 xz26 xtop⟩
      xi27 := ⟨g27, mkx_InvalidParts (PX.xAll_ok xall _ (by simp)).o (PySem.W.mg_none_of X G z_super) xst xi27 xl27 xc27 xk27 xv27 xw27 xz27 xtop⟩
      xi28 := ⟨g28, mkx_NotRisky (PX.xAll_ok xall _ (by simp)).o (PySem.W.mg_none_of X G z_super) xst xi28 xl28 xc28 xk28 xv28 xw28 xz28 xtop⟩
      xi29 := ⟨g29, mkx_NeverDone (PX.xAll_ok xall _ (by simp)).o (PySem.W.mg_none_of X G z_super) xst xi29 xl29 xc29 xk29 xv29 xw29 xz29 xtop⟩
      xi30 := ⟨g30, mkx_TooMany (PX.xAll_ok xall _ (by simp)).o (PySem.W.mg_none_of X G z_super) xst xi30 xl30 xc30 xk30 xv30 xw30 xz30 xtop⟩
      xi31 := ⟨g31, mkx_Overdue (PX.xAll_ok xall _ (by simp)).o (PySem.W.mg_none_of X G z_super) xst xi31 xl31 xc31 xk31 xv31 xw31 xz31 xtop⟩
  }
end K88
/-! k88: what the law's defs do. -/
namespace K88
open PySem PD
/-- the class whose mark stands at each place -/
def order : List Nat := [10, 15, 11, 7, 17, 26, 1, 9, 25, 4, 13, 14, 27, 6, 22, 2, 12, 5, 21, 24, 3, 8, 16, 29, 28, 20, 18, 19, 31, 23, 30]
def marksOf (c : Nat) : List PD.P := order.map fun d => .bl (decide (c = d))
def F_marks : List PD.Arg → LR
  | [.p (.exc c _ _)] => if c < 32 then .ok (.p (.lst (marksOf c))) [] else .bad
  | _ => .bad
theorem run_marks (Φ : Nat → List PD.Arg → LR) (fuel : Nat) (ns : List Str) (vs : List PD.P) : ∀ c, c < 32 → runB Φ fuel b_law_marks 2 [.p (.exc c ns vs)] [] = .ok (.p (.lst (marksOf c))) []
  | 0, _ => by kernel_rfl
  | 1, _ => by kernel_rfl
  | 2, _ => by kernel_rfl
  | 3, _ => by kernel_rfl
  | 4, _ => by kernel_rfl
  | 5, _ => by kernel_rfl
  | 6, _ => by kernel_rfl
  | 7, _ => by kernel_rfl
  | 8, _ => by kernel_rfl
  | 9, _ => by kernel_rfl
  | 10, _ => by kernel_rfl
  | 11, _ => by kernel_rfl
  | 12, _ => by kernel_rfl
  | 13, _ => by kernel_rfl
  | 14, _ => by kernel_rfl
  | 15, _ => by kernel_rfl
  | 16, _ => by kernel_rfl
  | 17, _ => by kernel_rfl
  | 18, _ => by kernel_rfl
  | 19, _ => by kernel_rfl
  | 20, _ => by kernel_rfl
  | 21, _ => by kernel_rfl
  | 22, _ => by kernel_rfl
  | 23, _ => by kernel_rfl
  | 24, _ => by kernel_rfl
  | 25, _ => by kernel_rfl
  | 26, _ => by kernel_rfl
  | 27, _ => by kernel_rfl
  | 28, _ => by kernel_rfl
  | 29, _ => by kernel_rfl
  | 30, _ => by kernel_rfl
  | 31, _ => by kernel_rfl
  | k + 32, h => absurd h (by omega)
theorem says_marks (Φ : Nat → List PD.Arg → LR) (fuel : Nat) : ∀ as, Says (runB Φ fuel b_law_marks 2 (numA 0 as) (boxesA as)) (boxesA as).length (F_marks as) := fun as => by
  unfold F_marks
  split
  · split
    · rename_i hc
      exact ⟨[], run_marks Φ fuel _ _ _ hc, rfl, rfl⟩
    · trivial
  · trivial
/-! _law_fields_right -/
def kindP (s : Str) (a : Int) : Nat → PD.P
  | 0 => .str s
  | 1 => .tup [.int (a % 4), .int 1]
  | _ => .int a
def kindD (s : Str) (a : Int) : Nat → PyData
  | 0 => .str s
  | 1 => .tuple [.int (a % 4), .int 1]
  | _ => .int a
def kinds22 : List Nat := [0, 0, 1, 1, 1, 1, 1, 1, 2, 2, 2, 2, 2, 2, 2, 2, 2, 2, 2, 2, 2, 2]
def F_fields : List PD.Arg → LR
  | [.p (.int a)] => if 0 ≤ a then .ok (.p (.bl true)) [] else .bad
  | _ => .bad
theorem eq_kinds {s : Str} (hs : PyData.canLay0 (.str s) = true) (a : Int) : prim2 .eq (.lst (kinds22.map (kindP s a))) (.lst (kinds22.map (kindP s a))) = some (.bl true) :=
  (eq_lst (f := kindP s a) (g := kindD s a) (fun n => match n with | 0 => rfl | 1 => rfl | _ + 2 => rfl) (fun n => match n with | 0 => hs | 1 => rfl | _ + 2 => rfl)
    (fun n => match n with | 0 => Nat.zero_le _ | 1 => (show max 0 (max 0 0) + 1 ≤ 5 by decide) | _ + 2 => Nat.zero_le _)
    (fun n => match n with | 0 => (show (s == s) = true by simp) | 1 => (show ((a % 4 == a % 4) && ((1 : Int) == 1 && true)) = true by simp) | _ + 2 => (show (a == a) = true by simp)) kinds22).1
theorem word_at {a : Int} (h : 0 ≤ a) : ∃ s : Str, PyData.canLay0 (.str s) = true ∧ prim2 .ix (.lst [.str "a", .str "task", .str "withins"]) (.int (a % 3)) = some (.str s) := by
  have h1 := Int.emod_nonneg a (show (3 : Int) ≠ 0 by decide)
  have h2 := Int.emod_lt_of_pos a (show (0 : Int) < 3 by decide)
  generalize a % 3 = i at h1 h2
  have : i = 0 ∨ i = 1 ∨ i = 2 := by omega
  rcases this with rfl | rfl | rfl
  · exact ⟨"a", by kernel_rfl, by kernel_rfl⟩
  · exact ⟨"task", by kernel_rfl, by kernel_rfl⟩
  · exact ⟨"withins", by kernel_rfl, by kernel_rfl⟩
theorem run_fields (Φ : Nat → List PD.Arg → LR) (fuel : Nat) {a : Int} (h : 0 ≤ a) : runB Φ fuel b_law_fields_right 5 [.p (.int a)] [] = .ok (.p (.bl true)) [] := by
  obtain ⟨s, hl, hs⟩ := word_at h
  refine runB_ret ?_
  show exs Φ fuel b_law_fields_right [some (.p (.int a)), none, none, none, none] [] = _
  have s1 : ex Φ fuel (.set (.nm 1) (.tup (.cons (.o2 .mod (.o1 .int (.var 0)) (.cst (.int 4))) (.cons (.cst (.int 1)) .nil)))) [some (.p (.int a)), none, none, none, none] [] = .next [some (.p (.int a)), some (.p (kindP s a 1)), none, none, none] [] := by kernel_rfl
  have e2 : ev Φ (.lst false (.cons (.cst (.str "a")) (.cons (.cst (.str "task")) (.cons (.cst (.str "withins")) .nil)))) [some (.p (.int a)), some (.p (kindP s a 1)), none, none, none] [] = .ok (.p (.lst [.str "a", .str "task", .str "withins"])) [] := by kernel_rfl
  have e3 : ev Φ (.o2 .mod (.o1 .int (.var 0)) (.cst (.int 3))) [some (.p (.int a)), some (.p (kindP s a 1)), none, none, none] [] = .ok (.p (.int (a % 3))) [] := by kernel_rfl
  have s2 : ex Φ fuel (.set (.nm 2) (.o2 .ix (.lst false (.cons (.cst (.str "a")) (.cons (.cst (.str "task")) (.cons (.cst (.str "withins")) .nil)))) (.o2 .mod (.o1 .int (.var 0)) (.cst (.int 3))))) [some (.p (.int a)), some (.p (kindP s a 1)), none, none, none] [] = .next [some (.p (.int a)), some (.p (kindP s a 1)), some (.p (.str s)), none, none] [] := by
    simp only [ex]
    rw [ev_o2 e2 e3 hs]
    rfl
  have s3 : exs Φ fuel (.cons (.set (.nm 3) (.lst false (.cons (.o1 (.xf 21 "name") (.mkx false 21 (some "name") (.cons (.var 2) .nil))) (.cons (.o1 (.xf 21 "name") (.mkx true 21 (some "name") (.cons (.var 2) .nil))) .nil)))) (.cons (.set (.nm 4) (.o2 .mul (.lst false (.cons (.var 2) .nil)) (.cst (.int 2)))) (.cons (.set (.nm 3) (.o2 .add (.var 3) (.lst false (.cons (.o1 (.xf 22 "path") (.mkx false 22 (some "path") (.cons (.var 1) .nil))) (.cons (.o1 (.xf 22 "path") (.mkx true 22 (some "path") (.cons (.var 1) .nil))) (.cons (.o1 (.xf 26 "path") (.mkx false 26 (some "path") (.cons (.var 1) .nil))) .nil)))))) (.cons (.set (.nm 3) (.o2 .add (.var 3) (.lst false (.cons (.o1 (.xf 26 "path") (.mkx true 26 (some "path") (.cons (.var 1) .nil))) (.cons (.o1 (.xf 31 "path") (.mkx false 31 (some "path") (.cons (.var 1) .nil))) (.cons (.o1 (.xf 31 "path") (.mkx true 31 (some "path") (.cons (.var 1) .nil))) .nil)))))) (.cons (.set (.nm 4) (.o2 .add (.var 4) (.o2 .mul (.lst false (.cons (.var 1) .nil)) (.cst (.int 6))))) (.cons (.set (.nm 3) (.o2 .add (.var 3) (.lst false (.cons (.o1 (.xf 23 "number") (.mkx false 23 (some "number") (.cons (.var 0) .nil))) (.cons (.o1 (.xf 23 "number") (.mkx true 23 (some "number") (.cons (.var 0) .nil))) (.cons (.o1 (.xf 30 "limit") (.mkx false 30 (some "limit") (.cons (.var 0) .nil))) .nil)))))) (.cons (.set (.nm 3) (.o2 .add (.var 3) (.lst false (.cons (.o1 (.xf 30 "limit") (.mkx true 30 (some "limit") (.cons (.var 0) .nil))) (.cons (.o1 (.xf 24 "index") (.mkx false 24 (some "index") (.cons (.var 0) .nil))) (.cons (.o1 (.xf 24 "index") (.mkx true 24 (some "index") (.cons (.var 0) .nil))) .nil)))))) (.cons (.set (.nm 3) (.o2 .add (.var 3) (.lst false (.cons (.o1 (.xf 25 "line") (.mkx false 25 (some "line") (.cons (.var 0) .nil))) (.cons (.o1 (.xf 25 "line") (.mkx true 25 (some "line") (.cons (.var 0) .nil))) (.cons (.o1 (.xf 27 "index") (.mkx false 27 (some "index") (.cons (.var 0) .nil))) .nil)))))) (.cons (.set (.nm 3) (.o2 .add (.var 3) (.lst false (.cons (.o1 (.xf 27 "index") (.mkx true 27 (some "index") (.cons (.var 0) .nil))) (.cons (.o1 (.xf 28 "index") (.mkx false 28 (some "index") (.cons (.var 0) .nil))) (.cons (.o1 (.xf 28 "index") (.mkx true 28 (some "index") (.cons (.var 0) .nil))) .nil)))))) (.cons (.set (.nm 3) (.o2 .add (.var 3) (.lst false (.cons (.o1 (.xf 29 "index") (.mkx false 29 (some "index") (.cons (.var 0) .nil))) (.cons (.o1 (.xf 29 "index") (.mkx true 29 (some "index") (.cons (.var 0) .nil))) .nil))))) (.cons (.ret true (.o2 .eq (.var 3) (.o2 .add (.var 4) (.o2 .mul (.lst false (.cons (.var 0) .nil)) (.cst (.int 14)))))) .nil))))))))))) [some (.p (.int a)), some (.p (kindP s a 1)), some (.p (.str s)), none, none] [] = exs Φ fuel (.cons (.ret true (.o2 .eq (.var 3) (.o2 .add (.var 4) (.o2 .mul (.lst false (.cons (.var 0) .nil)) (.cst (.int 14)))))) .nil) [some (.p (.int a)), some (.p (kindP s a 1)), some (.p (.str s)), some (.p (.lst (kinds22.map (kindP s a)))), some (.p (.lst ((kinds22.take 8).map (kindP s a))))] [] := by kernel_rfl
  have e4 : ev Φ (.o2 .add (.var 4) (.o2 .mul (.lst false (.cons (.var 0) .nil)) (.cst (.int 14)))) [some (.p (.int a)), some (.p (kindP s a 1)), some (.p (.str s)), some (.p (.lst (kinds22.map (kindP s a)))), some (.p (.lst ((kinds22.take 8).map (kindP s a))))] [] = .ok (.p (.lst (kinds22.map (kindP s a)))) [] := by kernel_rfl
  have e5 := ev_o2 (Φ := Φ) (o := .eq) (a := .var 3) (ρ := [some (.p (.int a)), some (.p (kindP s a 1)), some (.p (.str s)), some (.p (.lst (kinds22.map (kindP s a)))), some (.p (.lst ((kinds22.take 8).map (kindP s a))))]) (S := []) (x := .lst (kinds22.map (kindP s a))) rfl e4 (eq_kinds hl a)
  rw [b_law_fields_right, exs_cons, s1, next_then, exs_cons, s2, next_then]
  refine s3.trans ?_
  rw [exs_cons]
  simp only [ex]
  rw [e5]
  rfl
theorem says_fields (Φ : Nat → List PD.Arg → LR) (fuel : Nat) : ∀ as, Says (runB Φ fuel b_law_fields_right 5 (numA 0 as) (boxesA as)) (boxesA as).length (F_fields as) := fun as => by
  unfold F_fields
  split
  · split
    · rename_i h
      exact ⟨[], run_fields Φ fuel h, rfl, rfl⟩
    · trivial
  · trivial
/-! _law_right -/
def someL (a : Int) : List PD.P := [.exc 10 [] [], .exc 15 [] [], .exc 11 [] [], .exc 7 [] [], .exc 17 [] [], .exc 26 ["path"] [.tup [.int 0]], .exc 1 [] [], .exc 9 [] [], .exc 25 ["line"] [.int a], .exc 4 [] [], .exc 13 [] [], .exc 14 [] [], .exc 27 ["index"] [.int a], .exc 6 [] [], .exc 22 ["path"] [.tup []], .exc 2 [] [], .exc 12 [] [], .exc 5 [] [], .exc 21 ["name"] [.str "a"], .exc 24 ["index"] [.int a], .exc 3 [] [], .exc 8 [] [], .exc 16 [] [], .exc 29 ["index"] [.int a], .exc 28 ["index"] [.int a], .exc 20 [] [], .exc 18 [] [], .exc 19 [] [], .exc 31 ["path"] [.tup [.int 1]], .exc 23 ["number"] [.int a], .exc 30 ["limit"] [.int a]]
def F_right : List PD.Arg → LR
  | [.p (.str _), .p (.int a)] => if 0 ≤ a then .ok (.p (.bl true)) [] else .bad
  | _ => .bad
theorem run_right (Φ : Nat → List PD.Arg → LR) (h2 : Φ 2 = F_marks) (h3 : Φ 3 = F_fields) (fuel : Nat) (m : Str) {a : Int} (h : 0 ≤ a) : runB Φ fuel b_law_right 5 [.p (.str m), .p (.int a)] [] = .ok (.p (.bl true)) [] := by
  obtain ⟨Φ0, rfl, hf⟩ : ∃ Φ0 : Nat → List PD.Arg → LR, Φ = (fun i => if i = 2 then F_marks else Φ0 i) ∧ Φ0 3 = F_fields := ⟨Φ, funext fun i => by
    by_cases c : i = 2
    · subst c; rw [if_pos rfl, h2]
    · rw [if_neg c], h3⟩
  refine runB_ret ?_
  show exs _ fuel b_law_right [some (.p (.str m)), some (.p (.int a)), none, none, none] [] = _
  have s1 : exs (fun i => if i = 2 then F_marks else Φ0 i) fuel b_law_right [some (.p (.str m)), some (.p (.int a)), none, none, none] [] = exs (fun i => if i = 2 then F_marks else Φ0 i) fuel (.cons (.for_ (.nm 3) (.rng1 (.cst (.int 31))) (.cons (.iff (.tr (.o2 .ne (.call true 2 [] (.cons (.o2 .ix (.var 2) (.var 3)) .nil)) (.lc false [4] (.o2 .eq (.var 4) (.var 3)) (.nm 4) (.rng1 (.cst (.int 31))) .tt))) (.cons (.ret true (.cst (.bl false))) .nil) .nil) (.cons (.iff (.or (.not (.tr (.o1 (.isX 32 32 [0, 1, 2, 3, 4, 5, 6, 7, 8, 9, 10, 11, 12, 13, 14, 15, 16, 17, 18, 19, 20, 21, 22, 23, 24, 25, 26, 27, 28, 29, 30, 31]) (.o2 .ix (.var 2) (.var 3))))) (.not (.tr (.o1 (.isX 32 31 [0, 1, 2, 3, 4, 5, 6, 7, 8, 9, 10, 11, 12, 13, 14, 15, 16, 17, 18, 19, 20, 21, 22, 23, 24, 25, 26, 27, 28, 29, 30, 31]) (.o2 .ix (.var 2) (.var 3)))))) (.cons (.ret true (.cst (.bl false))) .nil) .nil) .nil))) (.cons (.ret true (.and (.call true 3 [] (.cons (.var 1) .nil)) (.o2 .nmem (.cst (.bl true)) (.call true 2 [] (.cons (.mkx false 0 none (.cons (.var 0) .nil)) .nil))))) .nil)) [some (.p (.str m)), some (.p (.int a)), some (.p (.lst (someL a))), none, none] [] := by kernel_rfl
  have s2 : ex (fun i => if i = 2 then F_marks else Φ0 i) fuel (.for_ (.nm 3) (.rng1 (.cst (.int 31))) (.cons (.iff (.tr (.o2 .ne (.call true 2 [] (.cons (.o2 .ix (.var 2) (.var 3)) .nil)) (.lc false [4] (.o2 .eq (.var 4) (.var 3)) (.nm 4) (.rng1 (.cst (.int 31))) .tt))) (.cons (.ret true (.cst (.bl false))) .nil) .nil) (.cons (.iff (.or (.not (.tr (.o1 (.isX 32 32 [0, 1, 2, 3, 4, 5, 6, 7, 8, 9, 10, 11, 12, 13, 14, 15, 16, 17, 18, 19, 20, 21, 22, 23, 24, 25, 26, 27, 28, 29, 30, 31]) (.o2 .ix (.var 2) (.var 3))))) (.not (.tr (.o1 (.isX 32 31 [0, 1, 2, 3, 4, 5, 6, 7, 8, 9, 10, 11, 12, 13, 14, 15, 16, 17, 18, 19, 20, 21, 22, 23, 24, 25, 26, 27, 28, 29, 30, 31]) (.o2 .ix (.var 2) (.var 3)))))) (.cons (.ret true (.cst (.bl false))) .nil) .nil) .nil))) [some (.p (.str m)), some (.p (.int a)), some (.p (.lst (someL a))), none, none] [] = .next [some (.p (.str m)), some (.p (.int a)), some (.p (.lst (someL a))), some (.p (.int 30)), none] [] := by kernel_rfl
  have e1 : ev (fun i => if i = 2 then F_marks else Φ0 i) (.call true 3 [] (.cons (.var 1) .nil)) [some (.p (.str m)), some (.p (.int a)), some (.p (.lst (someL a))), some (.p (.int 30)), none] [] = .ok (.p (.bl true)) [] := ev_c1 (x := .int a) rfl fun S => by
    show callA (Φ0 3) [D.p (.int a)] S = _
    rw [hf]
    exact callA_1 (show (if 0 ≤ a then _ else _) = _ by rw [if_pos h])
  have e2 : ev (fun i => if i = 2 then F_marks else Φ0 i) (.o2 .nmem (.cst (.bl true)) (.call true 2 [] (.cons (.mkx false 0 none (.cons (.var 0) .nil)) .nil))) [some (.p (.str m)), some (.p (.int a)), some (.p (.lst (someL a))), some (.p (.int 30)), none] [] = .ok (.p (.bl true)) [] := by kernel_rfl
  rw [s1, exs_cons, s2, next_then, exs_cons]
  simp only [ex]
  rw [ev_and1 e1, e2]
  rfl
theorem says_right (Φ : Nat → List PD.Arg → LR) (fuel : Nat) (h2 : Φ 2 = F_marks) (h3 : Φ 3 = F_fields) : ∀ as, Says (runB Φ fuel b_law_right 5 (numA 0 as) (boxesA as)) (boxesA as).length (F_right as) := fun as => by
  unfold F_right
  split
  · split
    · rename_i h
      exact ⟨[], run_right Φ h2 h3 fuel _ h, rfl, rfl⟩
    · trivial
  · trivial
/-! law -/
abbrev lawB : IB := (.cons (.set (.nm 3) (.call true 0 [] (.cons (.o2 .ix (.var 1) (.var 2)) (.cons (.var 2) .nil)))) (.cons (.set (.nm 4) (.o2 .mul (.o2 .ix (.cst (.str "a| ~")) (.call false 1 [] (.cons (.var 3) (.cons (.cst (.int 4)) .nil)))) (.call false 1 [] (.cons (.var 3) (.cons (.cst (.int 60)) .nil))))) (.cons (.iff (.not (.tr (.call true 4 [] (.cons (.var 4) (.cons (.call false 1 [] (.cons (.var 3) (.cons (.o2 .pow (.cst (.int 10)) (.cst (.int 9))) .nil))) .nil))))) (.cons (.ret true (.cst (.bl false))) .nil) .nil) .nil)))
noncomputable def F_law : List PD.Arg → LR := dec (α := List Int) (fun ns => [.p (.fls (ns.map .int))]) (fun ns => ns.length ≤ 63) (fun _ => .ok (.p (.bl true)) [])
theorem F_law_eq {ns : List Int} (h : ns.length ≤ 63) : F_law [.p (.fls (ns.map .int))] = .ok (.p (.bl true)) [] := dec_eq (a := ns) (fun a b h => fls_inj (by simpa using h)) h
theorem sign_at {j : Int} (h0 : 0 ≤ j) (h1 : j < 4) : ∃ s : Str, s.length ≤ 1000 ∧ prim2 .ix (.str "a| ~") (.int j) = some (.str s) := by
  have : j = 0 ∨ j = 1 ∨ j = 2 ∨ j = 3 := by omega
  rcases this with rfl | rfl | rfl | rfl
  · exact ⟨"a", by decide +kernel, by kernel_rfl⟩
  · exact ⟨"|", by decide +kernel, by kernel_rfl⟩
  · exact ⟨" ", by decide +kernel, by kernel_rfl⟩
  · exact ⟨"~", by decide +kernel, by kernel_rfl⟩
theorem turn_law (Φ : Nat → List PD.Arg → LR) (fuel : Nat) (h0 : Φ 0 = F_bag) (h1 : Φ 1 = F_draw) (h4 : Φ 4 = F_right) (sc : PD.P) (cs : List Int) (i : Int) (h0i : 0 ≤ i) (hi : i < cs.length) (hl : cs.length ≤ 1000) (a3 a4 : Option D) (S : Sto) :
    ∃ b3 b4 S', exs Φ fuel lawB [some (.p sc), some (.p (.lst (cs.map .int))), some (.p (.int i)), a3, a4] S = .next [some (.p sc), some (.p (.lst (cs.map .int))), some (.p (.int i)), b3, b4] S' := by
  obtain ⟨q, e⟩ := ix_int h0i hi
  have hk : i.natAbs < 2 ^ 50 := by omega
  have cb : callA (Φ 0) [D.p (.int q), D.p (.int i)] S = .ok (.box S.length) (S ++ [some (bagP (if q < 0 then -q else q) (if q < 0 then 37 * i + 18 else 37 * i))]) := by
    unfold callA
    have ta : toArgs S [D.p (.int q), D.p (.int i)] = some ([.p (.int q), .p (.int i)], []) := rfl
    rw [ta]
    dsimp only
    rw [if_pos ⟨by simp, by simp [boxesA]⟩, h0, F_bag_eq hk]
    dsimp only
    rw [if_pos ⟨rfl, by simp, by simp [O.pure, bagP]⟩]
    rfl
  have eb : ev Φ (.call true 0 [] (.cons (.o2 .ix (.var 1) (.var 2)) (.cons (.var 2) .nil))) [some (.p sc), some (.p (.lst (cs.map .int))), some (.p (.int i)), a3, a4] S = .ok (.box S.length) (S ++ [some (bagP (if q < 0 then -q else q) (if q < 0 then 37 * i + 18 else 37 * i))]) := by
    have ei : ev Φ (.o2 .ix (.var 1) (.var 2)) [some (.p sc), some (.p (.lst (cs.map .int))), some (.p (.int i)), a3, a4] S = .ok (.p (.int q)) S := ev_o2 (o := .ix) (a := .var 1) (b := .var 2) (x := .lst (cs.map .int)) (y := .int i) rfl rfl e
    have v2 : ev Φ (.var 2) [some (.p sc), some (.p (.lst (cs.map .int))), some (.p (.int i)), a3, a4] S = .ok (.p (.int i)) S := rfl
    show (((ev Φ (.o2 .ix (.var 1) (.var 2)) _ S).bind _).bind _) = _
    rw [ei]
    simp only [Res.bind, evL]
    rw [v2]
    simp only [Res.bind, if_true, frzL, frz, List.map_cons, List.map_nil, List.append_nil]
    exact cb
  generalize (if q < 0 then -q else q) = c at eb
  generalize hkk : (if q < 0 then 37 * i + 18 else 37 * i) = k at eb
  have hk0 : k.natAbs < 2 ^ 40 := by
    rw [← hkk]
    split <;> omega
  clear cb hkk
  generalize hn : S.length = n at eb
  have g1 : (S ++ [some (bagP c k)])[n]? = some (some (bagP c k)) := by simp [← hn]
  generalize S ++ [some (bagP c k)] = S1 at eb g1
  have d1 := ev_draw (Φ := Φ) (i := 1) (v := 3) (n := n) h1 (e := .cst (.int 4)) (ρ := [some (.p sc), some (.p (.lst (cs.map .int))), some (.p (.int i)), some (.box n), a4]) (S := S1) (c := c) (k := k) (m := 4) rfl rfl g1 ⟨by omega, by decide, by decide⟩
  have r1 := draw_range (c := c) (k := k) (m := 4) (by decide)
  have g2 : (S1.set n (some (bagP (drawC c 4) (k + 1))))[n]? = some (some (bagP (drawC c 4) (k + 1))) := by
    obtain ⟨hlt, _⟩ := List.getElem?_eq_some_iff.mp g1
    simp [hlt]
  generalize S1.set n (some (bagP (drawC c 4) (k + 1))) = S2 at d1 g2
  generalize drawD c k 4 = j1 at d1 r1
  generalize drawC c 4 = c2 at g2
  have d2 := ev_draw (Φ := Φ) (i := 1) (v := 3) (n := n) h1 (e := .cst (.int 60)) (ρ := [some (.p sc), some (.p (.lst (cs.map .int))), some (.p (.int i)), some (.box n), a4]) (S := S2) (c := c2) (k := k + 1) (m := 60) rfl rfl g2 ⟨by omega, by decide, by decide⟩
  have r2 := draw_range (c := c2) (k := k + 1) (m := 60) (by decide)
  have g3 : (S2.set n (some (bagP (drawC c2 60) (k + 1 + 1))))[n]? = some (some (bagP (drawC c2 60) (k + 1 + 1))) := by
    obtain ⟨hlt, _⟩ := List.getElem?_eq_some_iff.mp g2
    simp [hlt]
  generalize S2.set n (some (bagP (drawC c2 60) (k + 1 + 1))) = S3 at d2 g3
  generalize drawD c2 (k + 1) 60 = j2 at d2 r2
  generalize drawC c2 60 = c3 at g3
  obtain ⟨s, hs, es⟩ := sign_at r1.1 r1.2
  have ix1 : ev Φ (.o2 .ix (.cst (.str "a| ~")) (.call false 1 [] (.cons (.var 3) (.cons (.cst (.int 4)) .nil)))) [some (.p sc), some (.p (.lst (cs.map .int))), some (.p (.int i)), some (.box n), a4] S1 = .ok (.p (.str s)) S2 := ev_o2s (S1 := S1) (x := .str "a| ~") (y := .int j1) rfl d1 es
  have ml : prim2 .mul (.str s) (.int j2) = some (.str (strRep s j2)) := by
    simp only [prim2]
    rw [if_pos ⟨r2.1, by omega, hs⟩]
  have em : ev Φ (.o2 .mul (.o2 .ix (.cst (.str "a| ~")) (.call false 1 [] (.cons (.var 3) (.cons (.cst (.int 4)) .nil)))) (.call false 1 [] (.cons (.var 3) (.cons (.cst (.int 60)) .nil)))) [some (.p sc), some (.p (.lst (cs.map .int))), some (.p (.int i)), some (.box n), a4] S1 = .ok (.p (.str (strRep s j2))) S3 := ev_o2s ix1 d2 ml
  generalize strRep s j2 = u at em
  have pw : ev Φ (.o2 .pow (.cst (.int 10)) (.cst (.int 9))) [some (.p sc), some (.p (.lst (cs.map .int))), some (.p (.int i)), some (.box n), some (.p (.str u))] S3 = .ok (.p (.int 1000000000)) S3 := by kernel_rfl
  have d3 := ev_draw (Φ := Φ) (i := 1) (v := 3) (n := n) h1 (S := S3) (c := c3) (k := k + 1 + 1) (m := 1000000000) rfl pw g3 ⟨by omega, by decide, by decide⟩
  have r3 := draw_range (c := c3) (k := k + 1 + 1) (m := 1000000000) (by decide)
  generalize S3.set n (some (bagP (drawC c3 1000000000) (k + 1 + 1 + 1))) = S4 at d3
  generalize drawD c3 (k + 1 + 1) 1000000000 = j3 at d3 r3
  have er : ev Φ (.call true 4 [] (.cons (.var 4) (.cons (.call false 1 [] (.cons (.var 3) (.cons (.o2 .pow (.cst (.int 10)) (.cst (.int 9))) .nil))) .nil))) [some (.p sc), some (.p (.lst (cs.map .int))), some (.p (.int i)), some (.box n), some (.p (.str u))] S3 = .ok (.p (.bl true)) S4 := by
    refine ev_c2s (S1 := S3) (x := .str u) (y := .int j3) rfl d3 ?_
    rw [h4]
    exact callA_2 (show (if 0 ≤ j3 then _ else _) = _ by rw [if_pos r3.1])
  have et : evT Φ (.not (.tr (.call true 4 [] (.cons (.var 4) (.cons (.call false 1 [] (.cons (.var 3) (.cons (.o2 .pow (.cst (.int 10)) (.cst (.int 9))) .nil))) .nil))))) [some (.p sc), some (.p (.lst (cs.map .int))), some (.p (.int i)), some (.box n), some (.p (.str u))] S3 = .ok false S4 := by
    simp only [evT]
    rw [er]
    rfl
  have s1 : ex Φ fuel (.set (.nm 3) (.call true 0 [] (.cons (.o2 .ix (.var 1) (.var 2)) (.cons (.var 2) .nil)))) [some (.p sc), some (.p (.lst (cs.map .int))), some (.p (.int i)), a3, a4] S = .next [some (.p sc), some (.p (.lst (cs.map .int))), some (.p (.int i)), some (.box n), a4] S1 := by
    simp only [ex]
    rw [eb]
    rfl
  have s2 : ex Φ fuel (.set (.nm 4) (.o2 .mul (.o2 .ix (.cst (.str "a| ~")) (.call false 1 [] (.cons (.var 3) (.cons (.cst (.int 4)) .nil)))) (.call false 1 [] (.cons (.var 3) (.cons (.cst (.int 60)) .nil))))) [some (.p sc), some (.p (.lst (cs.map .int))), some (.p (.int i)), some (.box n), a4] S1 = .next [some (.p sc), some (.p (.lst (cs.map .int))), some (.p (.int i)), some (.box n), some (.p (.str u))] S3 := by
    simp only [ex]
    rw [em]
    rfl
  refine ⟨some (.box n), some (.p (.str u)), S4, ?_⟩
  rw [lawB, exs_cons, s1, next_then, exs_cons, s2, next_then, exs_cons]
  simp only [ex]
  rw [et]
  rfl
theorem loop_law (Φ : Nat → List PD.Arg → LR) (fuel : Nat) (h0 : Φ 0 = F_bag) (h1 : Φ 1 = F_draw) (h4 : Φ 4 = F_right) (sc : PD.P) (cs : List Int) (hl : cs.length ≤ 1000) : ∀ (its : List Int) (a a3 a4 : Option D) (S : Sto), (∀ i ∈ its, 0 ≤ i ∧ i < cs.length) → ∃ a' b3 b4 S', forO (fun x ρ S => match setTg (.nm 2) x ρ with
      | some ρ => exs Φ fuel lawB ρ S
      | none => .bad) (its.map .int) [some (.p sc), some (.p (.lst (cs.map .int))), a, a3, a4] S = .next [some (.p sc), some (.p (.lst (cs.map .int))), a', b3, b4] S'
  | [], a, a3, a4, S, _ => ⟨a, a3, a4, S, rfl⟩
  | i :: its, a, a3, a4, S, h => by
    have hi := h i List.mem_cons_self
    obtain ⟨c3, c4, S1, e1⟩ := turn_law Φ fuel h0 h1 h4 sc cs i hi.1 hi.2 hl a3 a4 S
    obtain ⟨a', b3, b4, S', e2⟩ := loop_law Φ fuel h0 h1 h4 sc cs hl its (some (.p (.int i))) c3 c4 S1 fun j hj => h j (List.mem_cons_of_mem _ hj)
    refine ⟨a', b3, b4, S', ?_⟩
    rw [List.map_cons, forO]
    have e : setTg (.nm 2) (.int i) [some (.p sc), some (.p (.lst (cs.map .int))), a, a3, a4] = some [some (.p sc), some (.p (.lst (cs.map .int))), some (.p (.int i)), a3, a4] := rfl
    rw [e]
    dsimp only
    rw [e1]
    exact e2
theorem ev_pad (Φ : Nat → List PD.Arg → LR) {ns cs : List Int} (h : ev Φ (.o2 .add (.slice (.var 0) false true (.cst .non) (.cst (.int 8))) (.o2 .mul (.lst false (.cons (.cst (.int 0)) .nil)) (.o1 .int (.o2 .eq (.var 0) (.lst false .nil))))) [some (.p (.fls (ns.map .int))), none, none] [] = .ok (.p (.lst (cs.map .int))) []) : ev Φ (.o2 .add (.slice (.var 0) false true (.cst .non) (.cst (.int 8))) (.o2 .mul (.lst false (.cons (.cst (.int 0)) .nil)) (.o1 .int (.o2 .eq (.var 0) (.lst false .nil))))) [some (.p (.fls (ns.map .int))), none, none, none, none] [] = .ok (.p (.lst (cs.map .int))) [] := h
theorem says_law (Φ : Nat → List PD.Arg → LR) (fuel : Nat) (h0 : Φ 0 = F_bag) (h1 : Φ 1 = F_draw) (h4 : Φ 4 = F_right) : ∀ as, Says (runB Φ fuel b_law 5 (numA 0 as) (boxesA as)) (boxesA as).length (F_law as) := dec_says fun ns h => by
  have h : ns.length ≤ 63 := h
  obtain ⟨cs, hl, e1⟩ := law_cells Φ ns h
  replace e1 := ev_pad Φ e1
  have s1 : ex Φ fuel (.set (.nm 1) (.o2 .add (.slice (.var 0) false true (.cst .non) (.cst (.int 8))) (.o2 .mul (.lst false (.cons (.cst (.int 0)) .nil)) (.o1 .int (.o2 .eq (.var 0) (.lst false .nil)))))) [some (.p (.fls (ns.map .int))), none, none, none, none] [] = .next [some (.p (.fls (ns.map .int))), some (.p (.lst (cs.map .int))), none, none, none] [] := by
    simp only [ex]
    rw [e1]
    rfl
  have hs : evS Φ (.rng1 (.o1 .len (.var 1))) [some (.p (.fls (ns.map .int))), some (.p (.lst (cs.map .int))), none, none, none] [] = .ok (((List.range cs.length).map fun (k : Nat) => (k : Int)).map .int) [] := by
    have el : ev Φ (.o1 .len (.var 1)) [some (.p (.fls (ns.map .int))), some (.p (.lst (cs.map .int))), none, none, none] [] = .ok (.p (.int cs.length)) [] := ev_o1 (o := .len) (a := .var 1) (x := .lst (cs.map .int)) rfl (show some (P.int ((cs.map P.int).length : Nat)) = _ by rw [List.length_map])
    have sm : small62 (cs.length : Int) = true := by
      unfold small62
      rw [decide_eq_true (by omega), decide_eq_true (by omega)]
      rfl
    have er := ev_rng el sm
    have e : rng 0 (cs.length : Int) = ((List.range cs.length).map fun (k : Nat) => (k : Int)).map P.int := by
      unfold rng
      simp
    rw [e] at er
    exact er
  obtain ⟨a', b3, b4, S', e2⟩ := loop_law Φ fuel h0 h1 h4 (.fls (ns.map .int)) cs hl ((List.range cs.length).map fun (k : Nat) => (k : Int)) none none none [] fun i hi => by
    obtain ⟨k, hk, rfl⟩ := List.mem_map.mp hi
    have := List.mem_range.mp hk
    omega
  refine ⟨S', runB_ret ?_, rfl, List.take_zero⟩
  show exs Φ fuel b_law [some (.p (.fls (ns.map .int))), none, none, none, none] [] = _
  rw [b_law, exs_cons, s1, next_then]
  have s2 : ex Φ fuel (.for_ (.nm 2) (.rng1 (.o1 .len (.var 1))) lawB) [some (.p (.fls (ns.map .int))), some (.p (.lst (cs.map .int))), none, none, none] [] = .next [some (.p (.fls (ns.map .int))), some (.p (.lst (cs.map .int))), a', b3, b4] S' := by
    rw [ex_for hs]
    exact e2
  rw [exs_cons, s2, next_then]
  rfl
end K88
/-! written by mkfin.py: the join -/
namespace K88
open PySem PD L2
/-- what the defs do -/
noncomputable def F : Nat → List PD.Arg → LR
  | 0 => F_bag
  | 1 => F_draw
  | 2 => F_marks
  | 3 => F_fields
  | 4 => F_right
  | 5 => F_law
  | _ => fun _ => .bad
def psn : Nat → List Str
  | 0 => ["cell", "k"]
  | 1 => ["bag", "many"]
  | 2 => ["e"]
  | 3 => ["amount"]
  | 4 => ["message", "amount"]
  | 5 => ["script"]
  | _ => []
def lev : Nat → Nat
  | 0 => 0
  | 1 => 0
  | 2 => 0
  | 3 => 0
  | 4 => 1
  | 5 => 2
  | _ => 1000
def calls : Nat → List Nat
  | 0 => []
  | 1 => []
  | 2 => []
  | 3 => []
  | 4 => [2, 3]
  | 5 => [0, 1, 4]
  | _ => []
theorem lev_ok : ∀ i, i < 6 → ∀ c ∈ calls i, lev c < lev i := by decide +kernel
noncomputable def Fm (s : Nat) : Nat → List PD.Arg → LR := fun i => if lev i < s then F i else fun _ => .bad
theorem ok_0 {P : Program} {w : World} {K : PySem.W.Frag} {mg : Str → Option Value} {base : Heap} {cl f : Nat → Addr} {fd : Nat → FuncData} {Φ : Nat → List PD.Arg → LR} {j : Nat} (wd : Wd P w K mg base cl Φ tab j) (X : Txt P K mg cl f fd) (hc : ∀ c ∈ calls 0, Φ c = F c) : FnOk P w K mg base (L2.CX P w) (j + 2) (f 0) (fd 0) (psn 0) (spL K cl (F 0)) :=
  fn_ck (fuel := 2 ^ 10000) wd X.d0 (by decide +kernel) ck_law_bag (fun as hb => by have hb : F_bag as ≠ .bad := hb; unfold F_bag at hb; first | (refine dec_len ?_ as hb; exact fun _ => rfl) | (split at hb <;> first | rfl | exact absurd rfl hb)) fun as _ => says_bag Φ _   as
theorem ok_1 {P : Program} {w : World} {K : PySem.W.Frag} {mg : Str → Option Value} {base : Heap} {cl f : Nat → Addr} {fd : Nat → FuncData} {Φ : Nat → List PD.Arg → LR} {j : Nat} (wd : Wd P w K mg base cl Φ tab j) (X : Txt P K mg cl f fd) (hc : ∀ c ∈ calls 1, Φ c = F c) : FnOk P w K mg base (L2.CX P w) (j + 2) (f 1) (fd 1) (psn 1) (spL K cl (F 1)) :=
  fn_ck (fuel := 2 ^ 10000) wd X.d1 (by decide +kernel) ck_law_draw (fun as hb => by have hb : F_draw as ≠ .bad := hb; unfold F_draw at hb; first | (refine dec_len ?_ as hb; exact fun _ => rfl) | (split at hb <;> first | rfl | exact absurd rfl hb)) fun as _ => says_draw Φ _   as
theorem ok_2 {P : Program} {w : World} {K : PySem.W.Frag} {mg : Str → Option Value} {base : Heap} {cl f : Nat → Addr} {fd : Nat → FuncData} {Φ : Nat → List PD.Arg → LR} {j : Nat} (wd : Wd P w K mg base cl Φ tab j) (X : Txt P K mg cl f fd) (hc : ∀ c ∈ calls 2, Φ c = F c) : FnOk P w K mg base (L2.CX P w) (j + 2) (f 2) (fd 2) (psn 2) (spL K cl (F 2)) :=
  fn_ck (fuel := 2 ^ 10000) wd X.d2 (by decide +kernel) ck_law_marks (fun as hb => by have hb : F_marks as ≠ .bad := hb; unfold F_marks at hb; first | (refine dec_len ?_ as hb; exact fun _ => rfl) | (split at hb <;> first | rfl | exact absurd rfl hb)) fun as _ => says_marks Φ _   as
theorem ok_3 {P : Program} {w : World} {K : PySem.W.Frag} {mg : Str → Option Value} {base : Heap} {cl f : Nat → Addr} {fd : Nat → FuncData} {Φ : Nat → List PD.Arg → LR} {j : Nat} (wd : Wd P w K mg base cl Φ tab j) (X : Txt P K mg cl f fd) (hc : ∀ c ∈ calls 3, Φ c = F c) : FnOk P w K mg base (L2.CX P w) (j + 2) (f 3) (fd 3) (psn 3) (spL K cl (F 3)) :=
  fn_ck (fuel := 2 ^ 10000) wd X.d3 (by decide +kernel) ck_law_fields_right (fun as hb => by have hb : F_fields as ≠ .bad := hb; unfold F_fields at hb; first | (refine dec_len ?_ as hb; exact fun _ => rfl) | (split at hb <;> first | rfl | exact absurd rfl hb)) fun as _ => says_fields Φ _   as
theorem ok_4 {P : Program} {w : World} {K : PySem.W.Frag} {mg : Str → Option Value} {base : Heap} {cl f : Nat → Addr} {fd : Nat → FuncData} {Φ : Nat → List PD.Arg → LR} {j : Nat} (wd : Wd P w K mg base cl Φ tab j) (X : Txt P K mg cl f fd) (hc : ∀ c ∈ calls 4, Φ c = F c) : FnOk P w K mg base (L2.CX P w) (j + 2) (f 4) (fd 4) (psn 4) (spL K cl (F 4)) :=
  fn_ck (fuel := 2 ^ 10000) wd X.d4 (by decide +kernel) ck_law_right (fun as hb => by have hb : F_right as ≠ .bad := hb; unfold F_right at hb; first | (refine dec_len ?_ as hb; exact fun _ => rfl) | (split at hb <;> first | rfl | exact absurd rfl hb)) fun as _ => says_right Φ _  (hc 2 (by decide)) (hc 3 (by decide)) as
theorem ok_5 {P : Program} {w : World} {K : PySem.W.Frag} {mg : Str → Option Value} {base : Heap} {cl f : Nat → Addr} {fd : Nat → FuncData} {Φ : Nat → List PD.Arg → LR} {j : Nat} (wd : Wd P w K mg base cl Φ tab j) (X : Txt P K mg cl f fd) (hc : ∀ c ∈ calls 5, Φ c = F c) : FnOk P w K mg base (L2.CX P w) (j + 2) (f 5) (fd 5) (psn 5) (spL K cl (F 5)) :=
  fn_ck (fuel := 2 ^ 10000) wd X.d5 (by decide +kernel) ck_law (fun as hb => by have hb : F_law as ≠ .bad := hb; unfold F_law at hb; first | (refine dec_len ?_ as hb; exact fun _ => rfl) | (split at hb <;> first | rfl | exact absurd rfl hb)) fun as _ => says_law Φ _  (hc 0 (by decide)) (hc 1 (by decide)) (hc 4 (by decide)) as
theorem fn_bad {P : Program} {w : World} {K : PySem.W.Frag} {mg : Str → Option Value} {base : Heap} {cl f : Nat → Addr} {fd : Nat → FuncData} {g : Addr} {gd : FuncData} {j : Nat} {ps : List Str} : FnOk P w K mg base (L2.CX P w) j g gd ps (spL K cl fun _ => .bad) := ⟨fun _ _ _ _ ⟨_, _, _, _, _, _, h⟩ => h.elim, fun _ _ _ _ _ _ _ _ _ _ _ _ _ ⟨_, _, _, _, _, _, h⟩ => h.elim⟩
theorem ok_all {P : Program} {w : World} {K : PySem.W.Frag} {mg : Str → Option Value} {base : Heap} {cl f : Nat → Addr} {fd : Nat → FuncData} {Φ : Nat → List PD.Arg → LR} {j : Nat} (wd : Wd P w K mg base cl Φ tab j) (X : Txt P K mg cl f fd) : ∀ i, i < 6 → (∀ c ∈ calls i, Φ c = F c) → FnOk P w K mg base (L2.CX P w) (j + 2) (f i) (fd i) (psn i) (spL K cl (F i))
  | 0, _, hc => ok_0 wd X hc
  | 1, _, hc => ok_1 wd X hc
  | 2, _, hc => ok_2 wd X hc
  | 3, _, hc => ok_3 wd X hc
  | 4, _, hc => ok_4 wd X hc
  | 5, _, hc => ok_5 wd X hc
  | k + 6, h, _ => absurd h (by omega)
theorem all_nil {α : Type} {p : α → Prop} : ∀ x ∈ ([] : List α), p x := fun _ h => by cases h
theorem all_cons {α : Type} {p : α → Prop} {a : α} {l : List α} (h : p a) (k : ∀ x ∈ l, p x) : ∀ x ∈ a :: l, p x := fun x hx => (List.mem_cons.mp hx).elim (fun e => e ▸ h) (k x)
theorem xa30 : ∀ c, c < 32 → ([30] : List Nat).contains c = (decide (c = 30) || decide (30 = 0)) := by decide +kernel
theorem xa23 : ∀ c, c < 32 → ([23] : List Nat).contains c = (decide (c = 23) || decide (23 = 0)) := by decide +kernel
theorem xa31 : ∀ c, c < 32 → ([31] : List Nat).contains c = (decide (c = 31) || decide (31 = 0)) := by decide +kernel
theorem xa19 : ∀ c, c < 32 → ([19] : List Nat).contains c = (decide (c = 19) || decide (19 = 0)) := by decide +kernel
theorem xa18 : ∀ c, c < 32 → ([18] : List Nat).contains c = (decide (c = 18) || decide (18 = 0)) := by decide +kernel
theorem xa20 : ∀ c, c < 32 → ([20] : List Nat).contains c = (decide (c = 20) || decide (20 = 0)) := by decide +kernel
theorem xa28 : ∀ c, c < 32 → ([28] : List Nat).contains c = (decide (c = 28) || decide (28 = 0)) := by decide +kernel
theorem xa29 : ∀ c, c < 32 → ([29] : List Nat).contains c = (decide (c = 29) || decide (29 = 0)) := by decide +kernel
theorem xa16 : ∀ c, c < 32 → ([16] : List Nat).contains c = (decide (c = 16) || decide (16 = 0)) := by decide +kernel
theorem xa8 : ∀ c, c < 32 → ([8] : List Nat).contains c = (decide (c = 8) || decide (8 = 0)) := by decide +kernel
theorem xa3 : ∀ c, c < 32 → ([3] : List Nat).contains c = (decide (c = 3) || decide (3 = 0)) := by decide +kernel
theorem xa24 : ∀ c, c < 32 → ([24] : List Nat).contains c = (decide (c = 24) || decide (24 = 0)) := by decide +kernel
theorem xa21 : ∀ c, c < 32 → ([21] : List Nat).contains c = (decide (c = 21) || decide (21 = 0)) := by decide +kernel
theorem xa5 : ∀ c, c < 32 → ([5] : List Nat).contains c = (decide (c = 5) || decide (5 = 0)) := by decide +kernel
theorem xa12 : ∀ c, c < 32 → ([12] : List Nat).contains c = (decide (c = 12) || decide (12 = 0)) := by decide +kernel
theorem xa2 : ∀ c, c < 32 → ([2] : List Nat).contains c = (decide (c = 2) || decide (2 = 0)) := by decide +kernel
theorem xa22 : ∀ c, c < 32 → ([22] : List Nat).contains c = (decide (c = 22) || decide (22 = 0)) := by decide +kernel
theorem xa6 : ∀ c, c < 32 → ([6] : List Nat).contains c = (decide (c = 6) || decide (6 = 0)) := by decide +kernel
theorem xa27 : ∀ c, c < 32 → ([27] : List Nat).contains c = (decide (c = 27) || decide (27 = 0)) := by decide +kernel
theorem xa14 : ∀ c, c < 32 → ([14] : List Nat).contains c = (decide (c = 14) || decide (14 = 0)) := by decide +kernel
theorem xa13 : ∀ c, c < 32 → ([13] : List Nat).contains c = (decide (c = 13) || decide (13 = 0)) := by decide +kernel
theorem xa4 : ∀ c, c < 32 → ([4] : List Nat).contains c = (decide (c = 4) || decide (4 = 0)) := by decide +kernel
theorem xa25 : ∀ c, c < 32 → ([25] : List Nat).contains c = (decide (c = 25) || decide (25 = 0)) := by decide +kernel
theorem xa9 : ∀ c, c < 32 → ([9] : List Nat).contains c = (decide (c = 9) || decide (9 = 0)) := by decide +kernel
theorem xa1 : ∀ c, c < 32 → ([1] : List Nat).contains c = (decide (c = 1) || decide (1 = 0)) := by decide +kernel
theorem xa26 : ∀ c, c < 32 → ([26] : List Nat).contains c = (decide (c = 26) || decide (26 = 0)) := by decide +kernel
theorem xa17 : ∀ c, c < 32 → ([17] : List Nat).contains c = (decide (c = 17) || decide (17 = 0)) := by decide +kernel
theorem xa7 : ∀ c, c < 32 → ([7] : List Nat).contains c = (decide (c = 7) || decide (7 = 0)) := by decide +kernel
theorem xa11 : ∀ c, c < 32 → ([11] : List Nat).contains c = (decide (c = 11) || decide (11 = 0)) := by decide +kernel
theorem xa15 : ∀ c, c < 32 → ([15] : List Nat).contains c = (decide (c = 15) || decide (15 = 0)) := by decide +kernel
theorem xa10 : ∀ c, c < 32 → ([10] : List Nat).contains c = (decide (c = 10) || decide (10 = 0)) := by decide +kernel
theorem xve : ∀ c, c < 32 → ([0, 1, 2, 3, 4, 5, 6, 7, 8, 9, 10, 11, 12, 13, 14, 15, 16, 17, 18, 19, 20, 21, 22, 23, 24, 25, 26, 27, 28, 29, 30, 31] : List Nat).contains c = true := by decide +kernel
theorem xa0 : ∀ c, c < 32 → ([0, 1, 2, 3, 4, 5, 6, 7, 8, 9, 10, 11, 12, 13, 14, 15, 16, 17, 18, 19, 20, 21, 22, 23, 24, 25, 26, 27, 28, 29, 30, 31] : List Nat).contains c = (decide (c = 0) || decide (0 = 0)) := by decide +kernel
theorem wd_of {P : Program} {w : World} {K : PySem.W.Frag} {mg : Str → Option Value} {base : Heap} {cl f : Nat → Addr} {fd : Nat → FuncData} {Φ : Nat → List PD.Arg → LR} {j : Nat} (X : Txt P K mg cl f fd) (h : ∀ i, i < 6 → FnOk P w K mg base (L2.CX P w) j (f i) (fd i) (psn i) (spL K cl (Φ i))) : Wd P w K mg base cl Φ tab j where
  fn := all_cons (⟨f 0, fd 0, psn 0, [], [], h 0 (by decide), X.m0, X.k0, X.b0, .nil, fun _ => rfl, rfl⟩) (all_cons (⟨f 1, fd 1, psn 1, [], [], h 1 (by decide), X.m1, X.k1, X.b1, .nil, fun _ => rfl, rfl⟩) (all_cons (⟨f 3, fd 3, psn 3, [], [], h 3 (by decide), X.m3, X.k3, X.b3, .nil, fun _ => rfl, rfl⟩) (all_cons (⟨f 2, fd 2, psn 2, [], [], h 2 (by decide), X.m2, X.k2, X.b2, .nil, fun _ => rfl, rfl⟩) (all_cons (⟨f 4, fd 4, psn 4, [], [], h 4 (by decide), X.m4, X.k4, X.b4, .nil, fun _ => rfl, rfl⟩) (all_nil)))))
  mkr := all_nil
  mt := all_nil
  op := all_nil
  eq := all_nil
  ne := all_nil
  isin := all_nil
  len := all_nil
  fl := all_nil
  cs := all_nil
  gl := all_nil
  bl := all_cons (X.z_int) (all_cons (X.z_isinstance) (all_cons (X.z_len) (all_cons (X.z_range) (all_nil))))
  ic := fun c hc => match c, hc with
    | k + 0, hc => absurd hc (show ¬ k + 0 < 0 by omega)
  kit := all_nil
  xm := all_cons (⟨X.xq10, (X.xcl 10 (by decide)).o.kC, rfl, X.xn10⟩) (all_cons (⟨X.xq15, (X.xcl 15 (by decide)).o.kC, rfl, X.xn15⟩) (all_cons (⟨X.xq11, (X.xcl 11 (by decide)).o.kC, rfl, X.xn11⟩) (all_cons (⟨X.xq7, (X.xcl 7 (by decide)).o.kC, rfl, X.xn7⟩) (all_cons (⟨X.xq17, (X.xcl 17 (by decide)).o.kC, rfl, X.xn17⟩) (all_cons (⟨X.xq26, (X.xcl 26 (by decide)).o.kC, rfl, X.xi26⟩) (all_cons (⟨X.xq1, (X.xcl 1 (by decide)).o.kC, rfl, X.xn1⟩) (all_cons (⟨X.xq9, (X.xcl 9 (by decide)).o.kC, rfl, X.xn9⟩) (all_cons (⟨X.xq25, (X.xcl 25 (by decide)).o.kC, rfl, X.xi25⟩) (all_cons (⟨X.xq4, (X.xcl 4 (by decide)).o.kC, rfl, X.xn4⟩) (all_cons (⟨X.xq13, (X.xcl 13 (by decide)).o.kC, rfl, X.xn13⟩) (all_cons (⟨X.xq14, (X.xcl 14 (by decide)).o.kC, rfl, X.xn14⟩) (all_cons (⟨X.xq27, (X.xcl 27 (by decide)).o.kC, rfl, X.xi27⟩) (all_cons (⟨X.xq6, (X.xcl 6 (by decide)).o.kC, rfl, X.xn6⟩) (all_cons (⟨X.xq22, (X.xcl 22 (by decide)).o.kC, rfl, X.xi22⟩) (all_cons (⟨X.xq2, (X.xcl 2 (by decide)).o.kC, rfl, X.xn2⟩) (all_cons (⟨X.xq12, (X.xcl 12 (by decide)).o.kC, rfl, X.xn12⟩) (all_cons (⟨X.xq5, (X.xcl 5 (by decide)).o.kC, rfl, X.xn5⟩) (all_cons (⟨X.xq21, (X.xcl 21 (by decide)).o.kC, rfl, X.xi21⟩) (all_cons (⟨X.xq24, (X.xcl 24 (by decide)).o.kC, rfl, X.xi24⟩) (all_cons (⟨X.xq3, (X.xcl 3 (by decide)).o.kC, rfl, X.xn3⟩) (all_cons (⟨X.xq8, (X.xcl 8 (by decide)).o.kC, rfl, X.xn8⟩) (all_cons (⟨X.xq16, (X.xcl 16 (by decide)).o.kC, rfl, X.xn16⟩) (all_cons (⟨X.xq29, (X.xcl 29 (by decide)).o.kC, rfl, X.xi29⟩) (all_cons (⟨X.xq28, (X.xcl 28 (by decide)).o.kC, rfl, X.xi28⟩) (all_cons (⟨X.xq20, (X.xcl 20 (by decide)).o.kC, rfl, X.xn20⟩) (all_cons (⟨X.xq18, (X.xcl 18 (by decide)).o.kC, rfl, X.xn18⟩) (all_cons (⟨X.xq19, (X.xcl 19 (by decide)).o.kC, rfl, X.xn19⟩) (all_cons (⟨X.xq31, (X.xcl 31 (by decide)).o.kC, rfl, X.xi31⟩) (all_cons (⟨X.xq0, (X.xcl 0 (by decide)).o.kC, rfl, X.xn0⟩) (all_cons (⟨X.xq23, (X.xcl 23 (by decide)).o.kC, rfl, X.xi23⟩) (all_cons (⟨X.xq30, (X.xcl 30 (by decide)).o.kC, rfl, X.xi30⟩) (all_nil))))))))))))))))))))))))))))))))
  xi := all_cons (⟨.ref (cl 530), .ref (cl 530), .inl X.xq30, rfl, fun _ h => h, rfl, by decide, PX.own_ans (n := 32) (t := 30) X.xcl X.xnd (by decide) (by decide) xa30⟩) (all_cons (⟨.ref (cl 523), .ref (cl 523), .inl X.xq23, rfl, fun _ h => h, rfl, by decide, PX.own_ans (n := 32) (t := 23) X.xcl X.xnd (by decide) (by decide) xa23⟩) (all_cons (⟨.ref (cl 531), .ref (cl 531), .inl X.xq31, rfl, fun _ h => h, rfl, by decide, PX.own_ans (n := 32) (t := 31) X.xcl X.xnd (by decide) (by decide) xa31⟩) (all_cons (⟨.ref (cl 519), .ref (cl 519), .inl X.xq19, rfl, fun _ h => h, rfl, by decide, PX.own_ans (n := 32) (t := 19) X.xcl X.xnd (by decide) (by decide) xa19⟩) (all_cons (⟨.ref (cl 518), .ref (cl 518), .inl X.xq18, rfl, fun _ h => h, rfl, by decide, PX.own_ans (n := 32) (t := 18) X.xcl X.xnd (by decide) (by decide) xa18⟩) (all_cons (⟨.ref (cl 520), .ref (cl 520), .inl X.xq20, rfl, fun _ h => h, rfl, by decide, PX.own_ans (n := 32) (t := 20) X.xcl X.xnd (by decide) (by decide) xa20⟩) (all_cons (⟨.ref (cl 528), .ref (cl 528), .inl X.xq28, rfl, fun _ h => h, rfl, by decide, PX.own_ans (n := 32) (t := 28) X.xcl X.xnd (by decide) (by decide) xa28⟩) (all_cons (⟨.ref (cl 529), .ref (cl 529), .inl X.xq29, rfl, fun _ h => h, rfl, by decide, PX.own_ans (n := 32) (t := 29) X.xcl X.xnd (by decide) (by decide) xa29⟩) (all_cons (⟨.ref (cl 516), .ref (cl 516), .inl X.xq16, rfl, fun _ h => h, rfl, by decide, PX.own_ans (n := 32) (t := 16) X.xcl X.xnd (by decide) (by decide) xa16⟩) (all_cons (⟨.ref (cl 508), .ref (cl 508), .inl X.xq8, rfl, fun _ h => h, rfl, by decide, PX.own_ans (n := 32) (t := 8) X.xcl X.xnd (by decide) (by decide) xa8⟩) (all_cons (⟨.ref (cl 503), .ref (cl 503), .inl X.xq3, rfl, fun _ h => h, rfl, by decide, PX.own_ans (n := 32) (t := 3) X.xcl X.xnd (by decide) (by decide) xa3⟩) (all_cons (⟨.ref (cl 524), .ref (cl 524), .inl X.xq24, rfl, fun _ h => h, rfl, by decide, PX.own_ans (n := 32) (t := 24) X.xcl X.xnd (by decide) (by decide) xa24⟩) (all_cons (⟨.ref (cl 521), .ref (cl 521), .inl X.xq21, rfl, fun _ h => h, rfl, by decide, PX.own_ans (n := 32) (t := 21) X.xcl X.xnd (by decide) (by decide) xa21⟩) (all_cons (⟨.ref (cl 505), .ref (cl 505), .inl X.xq5, rfl, fun _ h => h, rfl, by decide, PX.own_ans (n := 32) (t := 5) X.xcl X.xnd (by decide) (by decide) xa5⟩) (all_cons (⟨.ref (cl 512), .ref (cl 512), .inl X.xq12, rfl, fun _ h => h, rfl, by decide, PX.own_ans (n := 32) (t := 12) X.xcl X.xnd (by decide) (by decide) xa12⟩) (all_cons (⟨.ref (cl 502), .ref (cl 502), .inl X.xq2, rfl, fun _ h => h, rfl, by decide, PX.own_ans (n := 32) (t := 2) X.xcl X.xnd (by decide) (by decide) xa2⟩) (all_cons (⟨.ref (cl 522), .ref (cl 522), .inl X.xq22, rfl, fun _ h => h, rfl, by decide, PX.own_ans (n := 32) (t := 22) X.xcl X.xnd (by decide) (by decide) xa22⟩) (all_cons (⟨.ref (cl 506), .ref (cl 506), .inl X.xq6, rfl, fun _ h => h, rfl, by decide, PX.own_ans (n := 32) (t := 6) X.xcl X.xnd (by decide) (by decide) xa6⟩) (all_cons (⟨.ref (cl 527), .ref (cl 527), .inl X.xq27, rfl, fun _ h => h, rfl, by decide, PX.own_ans (n := 32) (t := 27) X.xcl X.xnd (by decide) (by decide) xa27⟩) (all_cons (⟨.ref (cl 514), .ref (cl 514), .inl X.xq14, rfl, fun _ h => h, rfl, by decide, PX.own_ans (n := 32) (t := 14) X.xcl X.xnd (by decide) (by decide) xa14⟩) (all_cons (⟨.ref (cl 513), .ref (cl 513), .inl X.xq13, rfl, fun _ h => h, rfl, by decide, PX.own_ans (n := 32) (t := 13) X.xcl X.xnd (by decide) (by decide) xa13⟩) (all_cons (⟨.ref (cl 504), .ref (cl 504), .inl X.xq4, rfl, fun _ h => h, rfl, by decide, PX.own_ans (n := 32) (t := 4) X.xcl X.xnd (by decide) (by decide) xa4⟩) (all_cons (⟨.ref (cl 525), .ref (cl 525), .inl X.xq25, rfl, fun _ h => h, rfl, by decide, PX.own_ans (n := 32) (t := 25) X.xcl X.xnd (by decide) (by decide) xa25⟩) (all_cons (⟨.ref (cl 509), .ref (cl 509), .inl X.xq9, rfl, fun _ h => h, rfl, by decide, PX.own_ans (n := 32) (t := 9) X.xcl X.xnd (by decide) (by decide) xa9⟩) (all_cons (⟨.ref (cl 501), .ref (cl 501), .inl X.xq1, rfl, fun _ h => h, rfl, by decide, PX.own_ans (n := 32) (t := 1) X.xcl X.xnd (by decide) (by decide) xa1⟩) (all_cons (⟨.ref (cl 526), .ref (cl 526), .inl X.xq26, rfl, fun _ h => h, rfl, by decide, PX.own_ans (n := 32) (t := 26) X.xcl X.xnd (by decide) (by decide) xa26⟩) (all_cons (⟨.ref (cl 517), .ref (cl 517), .inl X.xq17, rfl, fun _ h => h, rfl, by decide, PX.own_ans (n := 32) (t := 17) X.xcl X.xnd (by decide) (by decide) xa17⟩) (all_cons (⟨.ref (cl 507), .ref (cl 507), .inl X.xq7, rfl, fun _ h => h, rfl, by decide, PX.own_ans (n := 32) (t := 7) X.xcl X.xnd (by decide) (by decide) xa7⟩) (all_cons (⟨.ref (cl 511), .ref (cl 511), .inl X.xq11, rfl, fun _ h => h, rfl, by decide, PX.own_ans (n := 32) (t := 11) X.xcl X.xnd (by decide) (by decide) xa11⟩) (all_cons (⟨.ref (cl 515), .ref (cl 515), .inl X.xq15, rfl, fun _ h => h, rfl, by decide, PX.own_ans (n := 32) (t := 15) X.xcl X.xnd (by decide) (by decide) xa15⟩) (all_cons (⟨.ref (cl 510), .ref (cl 510), .inl X.xq10, rfl, fun _ h => h, rfl, by decide, PX.own_ans (n := 32) (t := 10) X.xcl X.xnd (by decide) (by decide) xa10⟩) (all_cons (⟨.ty "ValueError", .type "ValueError", .inr ⟨X.z_ValueError, rfl⟩, rfl, fun _ h => h, rfl, by decide, fun c hc => by rw [PX.kit_ve (X.xcl c hc)]; exact congrArg some (xve c hc).symm⟩) (all_cons (⟨.ref (cl 500), .ref (cl 500), .inl X.xq0, rfl, fun _ h => h, rfl, by decide, PX.own_ans (n := 32) (t := 0) X.xcl X.xnd (by decide) (by decide) xa0⟩) (all_nil)))))))))))))))))))))))))))))))))
  xf := all_cons (⟨(X.xcl 21 (by decide)).x, let ⟨_, h⟩ := X.xi21; h.hno⟩) (all_cons (⟨(X.xcl 22 (by decide)).x, let ⟨_, h⟩ := X.xi22; h.hno⟩) (all_cons (⟨(X.xcl 23 (by decide)).x, let ⟨_, h⟩ := X.xi23; h.hno⟩) (all_cons (⟨(X.xcl 24 (by decide)).x, let ⟨_, h⟩ := X.xi24; h.hno⟩) (all_cons (⟨(X.xcl 25 (by decide)).x, let ⟨_, h⟩ := X.xi25; h.hno⟩) (all_cons (⟨(X.xcl 26 (by decide)).x, let ⟨_, h⟩ := X.xi26; h.hno⟩) (all_cons (⟨(X.xcl 27 (by decide)).x, let ⟨_, h⟩ := X.xi27; h.hno⟩) (all_cons (⟨(X.xcl 28 (by decide)).x, let ⟨_, h⟩ := X.xi28; h.hno⟩) (all_cons (⟨(X.xcl 29 (by decide)).x, let ⟨_, h⟩ := X.xi29; h.hno⟩) (all_cons (⟨(X.xcl 30 (by decide)).x, let ⟨_, h⟩ := X.xi30; h.hno⟩) (all_cons (⟨(X.xcl 31 (by decide)).x, let ⟨_, h⟩ := X.xi31; h.hno⟩) (all_nil)))))))))))
  xc := fun c hc => (X.xcl c hc).e X.xsp X.xtk
theorem stage {P : Program} {w : World} {K : PySem.W.Frag} {mg : Str → Option Value} {base : Heap} {cl f : Nat → Addr} {fd : Nat → FuncData} (X : Txt P K mg cl f fd) : ∀ s i, i < 6 → FnOk P w K mg base (L2.CX P w) (2 * s) (f i) (fd i) (psn i) (spL K cl (Fm s i))
  | 0, i, _ => by
    have e : Fm 0 i = fun _ => .bad := if_neg (Nat.not_lt_zero _)
    rw [e]
    exact fn_bad (f := f) (fd := fd)
  | s + 1, i, hi => by
    have ih := stage (P := P) (w := w) (base := base) X s
    have wd := wd_of X ih
    by_cases c1 : lev i < s
    · have e1 : Fm (s + 1) i = F i := if_pos (by omega)
      have e2 : Fm s i = F i := if_pos c1
      have := ih i hi
      rw [e2] at this
      rw [e1]
      exact this.mono (by omega)
    · by_cases c2 : lev i = s
      · have e1 : Fm (s + 1) i = F i := if_pos (by omega)
        rw [e1]
        exact ok_all wd X i hi fun c hc => if_pos (by have := lev_ok i hi c hc; omega)
      · have e1 : Fm (s + 1) i = fun _ => .bad := if_neg (by omega)
        rw [e1]
        exact fn_bad (f := f) (fd := fd)
theorem fin {P : Program} {w : World} {K : PySem.W.Frag} {mg : Str → Option Value} {fa : Addr} (hx : ∃ (cl f : Nat → Addr) (fd : Nat → FuncData), f 5 = fa ∧ (∀ (s : Shared) (v : Value), BindsTo s (fd 5) ⟨[v], []⟩ [("script", v)]) ∧ Txt P K mg cl f fd) :
    ∃ (cl : Nat → Addr) (fd : FuncData), (∀ (s : Shared) (u : Value), BindsTo s fd ⟨[u], []⟩ [("script", u)]) ∧ ∀ base : Heap, K.In base → base.Ns mainGlobals mg → L2.FnOk P w K mg base (L2.CX P w) 6 fa fd ["script"] (PD.spL K cl F_law) := by
  obtain ⟨cl, f, fd, rfl, hb, X⟩ := hx
  refine ⟨cl, fd 5, hb, fun base _ _ => ?_⟩
  have h := stage (P := P) (w := w) (base := base) X 3 5 (by decide)
  have e : Fm 3 5 = F 5 := if_pos (by decide)
  rw [e] at h
  exact h
end K88
open PySem PySem.W PyProof.Rows
set_option maxRecDepth 100000 in
set_option maxHeartbeats 0 in
theorem PySem.Challenge.cw_prepaidplans_k88_errors_are_distinct_holds : PySem.Challenge.rw_prepaidplans_k88_errors_are_distinct.Holds := by
  w_on; o_law; k_head; (case hw => w_witness2)
  k_fill
  refine PD.walk_pd (l := PySem.Challenge.rw_prepaidplans_k88_errors_are_distinct) (k := 6) (Fn := K88.F_law) rfl rfl ⟨rfl, by decide, by decide⟩ (fun w h Y => PySem.W.kIn_of Y) (fun ns h => K88.F_law_eq h) ?F
  case F =>
    intro w mg fa h KX G hmg
    refine K88.fin ?_
    refine' K88.gather KX G hmg ?a0 ?l0 ?c0 ?k0 ?a1 ?l1 ?c1 ?k1 ?a2 ?l2 ?c2 ?k2 ?a3 ?l3 ?c3 ?k3 ?a4 ?l4 ?c4 ?k4 ?a5 ?l5 ?c5 ?k5 ?z_int ?z_isinstance ?z_len ?z_range ?z_ValueError ?z_super ?qx0 ?qx1 ?qx2 ?qx3 ?qx4 ?qx5 ?qx6 ?qx7 ?qx8 ?qx9 ?qx10 ?qx11 ?qx12 ?qx13 ?qx14 ?qx15 ?qx16 ?qx17 ?qx18 ?qx19 ?qx20 ?qx21 ?qx22 ?qx23 ?qx24 ?qx25 ?qx26 ?qx27 ?qx28 ?qx29 ?qx30 ?qx31 ?xall ?xndp ?xnob ?xsp ?xtk ?xst ?xtop ?xa21 ?xl21 ?xc21 ?xk21 ?xv21 ?xw21 ?xz21 ?xi21 ?xa22 ?xl22 ?xc22 ?xk22 ?xv22 ?xw22 ?xz22 ?xi22 ?xa23 ?xl23 ?xc23 ?xk23 ?xv23 ?xw23 ?xz23 ?xi23 ?xa24 ?xl24 ?xc24 ?xk24 ?xv24 ?xw24 ?xz24 ?xi24 ?xa25 ?xl25 ?xc25 ?xk25 ?xv25 ?xw25 ?xz25 ?xi25 ?xa26 ?xl26 ?xc26 ?xk26 ?xv26 ?xw26 ?xz26 ?xi26 ?xa27 ?xl27 ?xc27 ?xk27 ?xv27 ?xw27 ?xz27 ?xi27 ?xa28 ?xl28 ?xc28 ?xk28 ?xv28 ?xw28 ?xz28 ?xi28 ?xa29 ?xl29 ?xc29 ?xk29 ?xv29 ?xw29 ?xz29 ?xi29 ?xa30 ?xl30 ?xc30 ?xk30 ?xv30 ?xw30 ?xz30 ?xi30 ?xa31 ?xl31 ?xc31 ?xk31 ?xv31 ?xw31 ?xz31 ?xi31
    (case a0 => first | k_is); (case l0 => first | k_is); (case c0 => first | k_is); (case k0 => first | k_is); (case a1 => first | k_is); (case l1 => first | k_is); (case c1 => first | k_is); (case k1 => first | k_is)
    (case a2 => first | k_is); (case l2 => first | k_is); (case c2 => first | k_is); (case k2 => first | k_is); (case a3 => first | k_is); (case l3 => first | k_is); (case c3 => first | k_is); (case k3 => first | k_is)
    (case a4 => first | k_is); (case l4 => first | k_is); (case c4 => first | k_is); (case k4 => first | k_is); (case a5 => first | k_is); (case l5 => first | k_is); (case c5 => first | k_is); (case k5 => first | k_is)
    (case z_int => first | k_is); (case z_isinstance => first | k_is); (case z_len => first | k_is); (case z_range => first | k_is); (case z_ValueError => first | k_is); (case z_super => first | k_is); (case qx0 => first | k_is); (case qx1 => first | k_is)
    (case qx2 => first | k_is); (case qx3 => first | k_is); (case qx4 => first | k_is); (case qx5 => first | k_is); (case qx6 => first | k_is); (case qx7 => first | k_is); (case qx8 => first | k_is); (case qx9 => first | k_is)
    (case qx10 => first | k_is); (case qx11 => first | k_is); (case qx12 => first | k_is); (case qx13 => first | k_is); (case qx14 => first | k_is); (case qx15 => first | k_is); (case qx16 => first | k_is); (case qx17 => first | k_is)
    (case qx18 => first | k_is); (case qx19 => first | k_is); (case qx20 => first | k_is); (case qx21 => first | k_is); (case qx22 => first | k_is); (case qx23 => first | k_is); (case qx24 => first | k_is); (case qx25 => first | k_is)
    (case qx26 => first | k_is); (case qx27 => first | k_is); (case qx28 => first | k_is); (case qx29 => first | k_is); (case qx30 => first | k_is); (case qx31 => first | k_is); (case xall => first | k_is | kernel_rfl | rfl | decide +kernel); (case xndp => first | k_is | kernel_rfl | rfl | decide +kernel)
    (case xnob => first | k_is | kernel_rfl | rfl | decide +kernel); (case xsp => first | k_is | kernel_rfl | rfl | decide +kernel); (case xtk => first | k_is | kernel_rfl | rfl | decide +kernel); (case xst => first | k_is | kernel_rfl | rfl | decide +kernel); (case xtop => first | k_is | kernel_rfl | rfl | decide +kernel); (case xa21 => first | k_is); (case xl21 => first | k_is); (case xc21 => first | k_is | kernel_rfl | rfl | decide +kernel)
    (case xk21 => first | k_is); (case xv21 => first | exact rfl | k_is | kernel_rfl); (case xw21 => first | k_is | kernel_rfl | rfl | decide +kernel); (case xz21 => first | k_is); (case xi21 => first | k_is | kernel_rfl | rfl | decide +kernel); (case xa22 => first | k_is); (case xl22 => first | k_is); (case xc22 => first | k_is | kernel_rfl | rfl | decide +kernel)
    (case xk22 => first | k_is); (case xv22 => first | exact rfl | k_is | kernel_rfl); (case xw22 => first | k_is | kernel_rfl | rfl | decide +kernel); (case xz22 => first | k_is); (case xi22 => first | k_is | kernel_rfl | rfl | decide +kernel); (case xa23 => first | k_is); (case xl23 => first | k_is); (case xc23 => first | k_is | kernel_rfl | rfl | decide +kernel)
    (case xk23 => first | k_is); (case xv23 => first | exact rfl | k_is | kernel_rfl); (case xw23 => first | k_is | kernel_rfl | rfl | decide +kernel); (case xz23 => first | k_is); (case xi23 => first | k_is | kernel_rfl | rfl | decide +kernel); (case xa24 => first | k_is); (case xl24 => first | k_is); (case xc24 => first | k_is | kernel_rfl | rfl | decide +kernel)
    (case xk24 => first | k_is); (case xv24 => first | exact rfl | k_is | kernel_rfl); (case xw24 => first | k_is | kernel_rfl | rfl | decide +kernel); (case xz24 => first | k_is); (case xi24 => first | k_is | kernel_rfl | rfl | decide +kernel); (case xa25 => first | k_is); (case xl25 => first | k_is); (case xc25 => first | k_is | kernel_rfl | rfl | decide +kernel)
    (case xk25 => first | k_is); (case xv25 => first | exact rfl | k_is | kernel_rfl); (case xw25 => first | k_is | kernel_rfl | rfl | decide +kernel); (case xz25 => first | k_is); (case xi25 => first | k_is | kernel_rfl | rfl | decide +kernel); (case xa26 => first | k_is); (case xl26 => first | k_is); (case xc26 => first | k_is | kernel_rfl | rfl | decide +kernel)
    (case xk26 => first | k_is); (case xv26 => first | exact rfl | k_is | kernel_rfl); (case xw26 => first | k_is | kernel_rfl | rfl | decide +kernel); (case xz26 => first | k_is); (case xi26 => first | k_is | kernel_rfl | rfl | decide +kernel); (case xa27 => first | k_is); (case xl27 => first | k_is); (case xc27 => first | k_is | kernel_rfl | rfl | decide +kernel)
    (case xk27 => first | k_is); (case xv27 => first | exact rfl | k_is | kernel_rfl); (case xw27 => first | k_is | kernel_rfl | rfl | decide +kernel); (case xz27 => first | k_is); (case xi27 => first | k_is | kernel_rfl | rfl | decide +kernel); (case xa28 => first | k_is); (case xl28 => first | k_is); (case xc28 => first | k_is | kernel_rfl | rfl | decide +kernel)
    (case xk28 => first | k_is); (case xv28 => first | exact rfl | k_is | kernel_rfl); (case xw28 => first | k_is | kernel_rfl | rfl | decide +kernel); (case xz28 => first | k_is); (case xi28 => first | k_is | kernel_rfl | rfl | decide +kernel); (case xa29 => first | k_is); (case xl29 => first | k_is); (case xc29 => first | k_is | kernel_rfl | rfl | decide +kernel)
    (case xk29 => first | k_is); (case xv29 => first | exact rfl | k_is | kernel_rfl); (case xw29 => first | k_is | kernel_rfl | rfl | decide +kernel); (case xz29 => first | k_is); (case xi29 => first | k_is | kernel_rfl | rfl | decide +kernel); (case xa30 => first | k_is); (case xl30 => first | k_is); (case xc30 => first | k_is | kernel_rfl | rfl | decide +kernel)
    (case xk30 => first | k_is); (case xv30 => first | exact rfl | k_is | kernel_rfl); (case xw30 => first | k_is | kernel_rfl | rfl | decide +kernel); (case xz30 => first | k_is); (case xi30 => first | k_is | kernel_rfl | rfl | decide +kernel); (case xa31 => first | k_is); (case xl31 => first | k_is); (case xc31 => first | k_is | kernel_rfl | rfl | decide +kernel)
    (case xk31 => first | k_is); (case xv31 => first | exact rfl | k_is | kernel_rfl); (case xw31 => first | k_is | kernel_rfl | rfl | decide +kernel); (case xz31 => first | k_is); (case xi31 => first | k_is | kernel_rfl | rfl | decide +kernel)
