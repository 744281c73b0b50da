import PyProof.Rows.All
import Wide.All
import OpenK.AllK
import Wide.FinOn
import HandS.ForMost
import HandS.Exc
import HandS.ExcInit
import KE.KExcSuper
import HandS.Defaults
import HandS.IsInst
import HandS.ExcIs
import HandS.ExcField
import KE.KExcIs
import HandS.Lambda
import HandS.Evl
import HandS.Wide
import HandS.TupAny
import HandS.SortInts
import HandS.Style
import HandS.Flow
import HandS.Deep
import HandS.WideBits
import HandS.Conv
import HandS.Iter
import HandS.Comp
import PyProof.EqAt
import KE.SortData
import HandS.Words
import HandS.WordsExc
import HandS.MakeKwOnly
import PyProof.ReprLen
import KE.GoesEnumKw
import PyProof.Rows.CallKwBuiltin
import HandS.EndTab
import HandS.ExcOwn
import HandS.EndOwn
import HandS.Text
import HandS.More
import PyProof.StrOps2
import PySem.Challenge.RW_saidahead_k81_forms_and_talks
set_option Elab.async false
set_option linter.all false
set_option maxRecDepth 100000
set_option maxHeartbeats 4000000
/-! Errors of one's own whose __init__ says super().__init__(value) and keeps the value: made, as a promise of the very __init__. -/
namespace ErX
open PySem PySem.Spec PyProof.Rows L2 PySem.W PySem.Calls
def iArgs (p1 p2 p3 : Pos) : Arguments := { posonlyargs := [], args := [{ arg := "self", annotation := none, pos := p1 }, { arg := "value", annotation := none, pos := p2 }], vararg := none, kwonlyargs := [], kw_defaults := [], kwarg := none, defaults := [.Constant .none 0 p3] }
def iBody (q1 q2 q3 q4 q5 q6 q7 q8 q9 q10 : Pos) : List Stmt :=
  [.Expr (.Call (.Attribute (.Call (.Name "super" q1) [] [] q2) "__init__" q3) [.Name "value" q4] [] q5) q6, .Assign [.Attribute (.Name "self" q7) "value" q8] (.Name "value" q9) q10]
def iScope : Scope := { kind := .function, names := [(PySem.Str.ofString "self", .local), (PySem.Str.ofString "value", .local), (PySem.Str.ofString "__class__", .free), (PySem.Str.ofString "super", .globalImplicit)], isGenerator := false, isCoroutine := false, more := [] }
/-- what the written part says of the class x, at C, and of its __init__, at fI -/
structure ErrC (P : Program) (K : Frag) (mg : Str → Option Value) (x : Str) (C fI : Addr) : Prop where
  gC : mg x = some (.ref C)
  oex : OexC K C
  ga : findIn K (.ref C) "__getattribute__" = some (some (.builtin "BaseException.__getattribute__"))
  gg : findIn K (.ref C) "__getattr__" = some none
  noV : findIn K (.ref C) "value" = some none
  iC : findIn K (.ref C) "__init__" = some (some (.ref fI))
  tI : typeIn K (.ref fI) = some (.type "function")
  hdC : hasDictIn K C = true
  sub : subIn K (.ref C) (.type "ValueError") = some true
  own : mroIn K C (.ref C) = some true
  al : ks_superIn K C C "__init__" = some (some (.builtin "ValueError.__init__"))
  noAny : nsIn K cStatics "thirdparty.any" = some none
  noS : mg "super" = none
  topS : (P.main.scope.names.lookup ("super" : Str)).isSome = false
  fn : ∃ (qual : Str) (oc : Value) (od : Option Addr) (dT : Addr) (kV doc pm : Value) (an : Option Addr) (cda : Addr) (ct : Value) (cc : Addr) (osl : Array (Option Value)) (p1 p2 p3 q1 q2 q3 q4 q5 q6 q7 q8 q9 q10 : Pos)
      (ccl : Value) (cdd : Option Addr) (vs : Array Value) (ccs : Array (Option Value)) (file : Str) (tf : Tok) (cl : Value) (cld : Option Addr) (csl : Array (Option Value)) (dcl : Value) (dcd : Option Addr) (dit : Value) (dn : Nat) (dsl : Array (Option Value)),
    K.lookup fI = some ⟨oc, od, .func (ksFn "__init__" qual (iArgs p1 p2 p3) (iBody q1 q2 q3 q4 q5 q6 q7 q8 q9 q10) iScope (.ref dT) kV doc pm an (.ref cda) ct cc), osl⟩ ∧ codeIn K (.ref cda) qual = true ∧
    K.lookup cda = some ⟨ccl, cdd, .fields vs, ccs⟩ ∧ vs[2]? = some (.str file tf) ∧ ((P.main.file : Str) == file) = true ∧ K.lookup cc = some ⟨cl, cld, .cell (some (.ref C)), csl⟩ ∧ (q3.endLine == q5.line) = true ∧ K.lookup dT = some ⟨dcl, dcd, .seq #[dit] dn, dsl⟩

/-! ### super().__init__(v) called -/
section
variable {prog : Program} {w : World} {A : Around} {E : Value → Shared → Prop} {h : Heap} {g : Array GenState} {d : Drawn} {t : Nat} {os : OsState}
variable {nm q : Str} {C N : Addr} {bs bm : List Value} {hdct : Bool} {sn : List Str} {sub : List Value} {ab : Bool} {col : Option Bool} {dd : Option Addr} {k0 k1 k2 k3 k5 : Option Value}
theorem mw_call {u e t0 : Addr} {rest : List Value} {Q : Value → Shared → Prop}
    (hC : h.get? C = some (excClassObj nm q C N bs bm hdct sn sub ab col dd k0 k1 k2 k3 k5 "ValueError.__new__")) (he : h.get? e = some (HandSPX.excO C t0)) (hu : h.get? u = some (kxs_mw "ValueError.__init__" e)) (hz : rest.length ≤ sizeLine)
    (hq : ∀ h' t1, (∀ b o, b ≠ e → h.get? b = some o → h'.get? b = some o) → h'.get? e = some (HandSPX.excO C t1) → Q .none ⟨h', g, d, t, os⟩) :
    wpAny (model prog w) A (call (.ref u) rest) Q E ⟨h, g, d, t, os⟩ := by
  refine wpAny_call (codeAny_of_tree ?_)
  show wpAny _ A.in1 (callAny (.ref u) ⟨rest, []⟩) _ _ _
  simp only [callAny]
  refine wpAny_bind (wpAny_load hu ?_)
  have em : (Value.type "method-wrapper" == Value.type "method" || Value.type "method-wrapper" == Value.type "builtin_function_or_method" || Value.type "method-wrapper" == Value.type "method-wrapper") = true := by decide
  simp only [kxs_mw, em, if_true]
  refine KFB.if_so (by decide) ?_
  refine wpAny_bind (check_bound_init F.excBase_ValueError.toExcCallFacts hC he rfl ?_)
  refine wpAny_bind (wpAny_pure (wpAny_pure ?_))
  refine ⟨Code.quiet_builtin _ (by decide +kernel), codeAny_builtin F.excBase_ValueError.initEntry ?_⟩
  rw [Around.under_plainId F.excBase_ValueError.init.plain _]
  wp_walk
  refine hq _ h.objs.size (fun b o hb ho => ?_) ?_
  · rw [Heap.get?_update_other _ _ (Ne.symm hb)]
    exact Heap.get?_push_of_some _ ho
  · rw [Heap.get?_update_self _ (Heap.get?_push_of_some _ he) rfl]
    rfl
end

/-! ### __init__ keeps its promise -/
/-- a fresh error at a, a value v: behind it the error has a dict of its own with the value -/
def spInit (C : Addr) : Sp := fun vs H Q _ => ∃ (a : Addr) (v : V), vs = [.ref a, v] ∧ H a = some (exo a C none) ∧ ∀ d, H d = none → d ≠ a → Q .non (upd (upd H d (exd d [("value", v)])) a (exo a C (some d)))
abbrev iEnv (qual : Str) (L f : Addr) (cda cc : Addr) : Env := ksEnv qual iScope L f (.ref cda) cc
def iniCx (P : Program) (w : World) (K : Frag) (mg : Str → Option Value) (base : Heap) (qual : Str) (f cda cc : Addr) (A : Around) (outer : List Env) (s : Shared) (H : Hp) : Cx where
  prog := P
  w := w
  K := K
  mg := mg
  base := base
  A := A.deeper (iEnv qual s.heap.objs.size f cda cc)
  N := ["self", "value"]
  s_0 := s
  H_0 := H
  env := iEnv qual s.heap.objs.size f cda cc
  outer := outer
  stack := iEnv qual s.heap.objs.size f cda cc :: outer
  ex := []
  fn := fun _ => false
  calm := true
  pn := []
  xe := fun _ _ => False
theorem iScope_loc {y : Str} (h : iScope.names.lookup y = some .local) : y = "self" ∨ y = "value" := by
  have m := PySem.mem_of_lookup h
  unfold iScope at m
  simp only [List.mem_cons, Prod.mk.injEq, List.not_mem_nil, or_false] at m
  rcases m with ⟨e, _⟩ | ⟨e, _⟩ | ⟨_, z⟩ | ⟨_, z⟩
  · exact .inl e
  · exact .inr e
  · cases z
  · cases z
section
variable {P : Program} {w : World} {K : Frag} {mg : Str → Option Value} {base : Heap} {A : Around} {outer : List Env} {s : Shared} {H : Hp} {qual : Str} {f cda cc C : Addr}
/-- the state in __init__ behind super().__init__(value) -/
theorem ini_inv {a : Addr} {v : V} {u : Value} {h3 : Heap} {tk : Nat} (e0 : Env0 P w K mg base A outer s H) (hd : A.handled = none) (ru : RelV v u)
    (hcell : ∃ cl cld csl, K.lookup cc = some ⟨cl, cld, .cell (some (.ref C)), csl⟩) (ha : H a = some (exo a C none))
    (hns : h3.Ns s.heap.objs.size (fun y => (List.reverse [(("self" : Str), Value.ref a), (("value" : Str), u)]).lookup y)) (kp : ∀ b o, b ≠ a → s.heap.get? b = some o → h3.get? b = some o) {t1 : Addr} (he : h3.get? a = some (HandSPX.excO C t1)) :
    Inv (iniCx P w K mg base qual f cda cc A outer s H) [] [some (.ref a), some v] H { s with heap := h3, toks := tk } := by
  have hcx : ∀ {x c}, ([(("__class__" : Str), cc)] : List (Str × Addr)).lookup x = some c → c = cc := fun {x c} e => by
    have m := PySem.mem_of_lookup e
    simp only [List.mem_cons, Prod.mk.injEq, List.not_mem_nil, or_false] at m
    exact m.2
  obtain ⟨cl, cld, csl, hK⟩ := hcell
  have hb := e0.mod.kin _ _ hK
  obtain ⟨hcs, hcn⟩ := e0.bs _ _ hb
  have nac : cc ≠ a := fun z => by rw [z, ha] at hcn; cases hcn
  have hc3 := kp _ _ nac hcs
  have alt : a < s.heap.objs.size := e0.hok.lt ha
  have noA : ∀ b : Addr, b ∉ (iniCx P w K mg base qual f cda cc A outer s H).ex := fun b z => absurd (show b ∈ ([] : List Addr) from z) (by simp)
  have kn : ∀ b o, s.heap.get? b = some o → H b = none → h3.get? b = some o := fun b o e n => kp b o (fun z => by rw [z, ha] at n; cases n) e
  have hok3 : HOk P w H h3 := by
    have z := e0.hok.write (x := a) (e := a) (h' := h3) (o' := exo a C none) (by rw [ha]; exact True.intro) (.inl rfl) (fun b o hb q => kp b o hb q) ⟨_, he⟩ (exo_ok he)
    have eu : upd H a (exo a C none) = H := by
      funext b
      by_cases hb : b = a
      · rw [hb, upd_same, ha]
      · rw [upd_ne hb]
    rw [eu] at z
    exact z
  refine ⟨⟨e0.mod, rfl, rfl, rfl, Nat.le_refl _, fun y z c e1 e2 => ?_, fun y hy => ?_, fun y c z _ => ?_, fun _ => hd, Around.frames_deeper e0.frames, .inr ⟨rfl, rfl⟩, fun b z => absurd z (noA b), e0.bs, e0.bsz, fun b _ _ => noA b,
      fun b z => absurd z (noA b), e0.funs, e0.frf⟩,
    rfl, e0.bare, ⟨fun b o e n _ _ => kn b o e n, fun b o e n _ _ => ⟨o.slots, kn b o e n⟩, fun _ _ _ n _ => n, fun b o e _ => ?_, fun _ _ q => q, fun _ _ _ q => q, fun _ ps q => ⟨#[], by rw [show H _ = some (HO.tbl ps) from q]; simp⟩⟩, ⟨_, hns, fun i y v' e1 e2 e3 => ?_⟩, fun y c e => ?_, e0.hok.fresh (Nat.le_refl _), fun y c e => ?_,
      fun q hq => absurd (show q ∈ ([] : List (Addr × Obj)) ++ [] from hq) (by simp), hok3, rfl⟩
  · have m1 := PySem.mem_of_lookup (show ([(("__class__" : Str), cc)] : List (Str × Addr)).lookup y = some c from e1)
    have m2 := PySem.mem_of_lookup (show ([(("__class__" : Str), cc)] : List (Str × Addr)).lookup z = some c from e2)
    simp only [List.mem_cons, Prod.mk.injEq, List.not_mem_nil, or_false] at m1 m2
    rw [m1.1, m2.1]
  · have hy : iScope.names.lookup y = some .cell ∨ iScope.names.lookup y = some .free := hy
    rcases hy with hy | hy
    · have m := PySem.mem_of_lookup hy
      unfold iScope at m
      simp only [List.mem_cons, Prod.mk.injEq, List.not_mem_nil, or_false] at m
      rcases m with ⟨_, z⟩ | ⟨_, z⟩ | ⟨_, z⟩ | ⟨_, z⟩ <;> cases z
    · have m := PySem.mem_of_lookup hy
      unfold iScope at m
      simp only [List.mem_cons, Prod.mk.injEq, List.not_mem_nil, or_false] at m
      rcases m with ⟨_, z⟩ | ⟨_, z⟩ | ⟨e, _⟩ | ⟨_, z⟩
      · cases z
      · cases z
      · refine ⟨cc, ?_⟩
        rw [e]
        show ([(("__class__" : Str), cc)] : List (Str × Addr)).lookup ("__class__" : Str) = some cc
        simp [List.lookup]
      · cases z
  · have z : false = true := z
    cases z
  · by_cases hba : b = a
    · rw [hba]
      exact ⟨_, he⟩
    · exact ⟨o, kp b o hba e⟩
  · have hk : iScope.names.lookup y = some .local := by
      have e1 : (["self", "value"] : List Str)[i]? = some y := e1
      match i, e1 with
      | 0, e1 => cases e1; decide +kernel
      | 1, e1 => cases e1; decide +kernel
      | n + 2, e1 => simp at e1
    have e1 : (["self", "value"] : List Str)[i]? = some y := e1
    match i, e1, e2 with
    | 0, e1, e2 =>
      cases e1
      cases e2
      exact ⟨.ref a, rfl, .inl ⟨hk, by first | rfl | with_unfolding_all rfl | kernel_rfl⟩⟩
    | 1, e1, e2 =>
      cases e1
      cases e2
      exact ⟨u, ru, .inl ⟨hk, by first | rfl | with_unfolding_all rfl | kernel_rfl⟩⟩
    | n + 2, e1, e2 => simp at e1
  · have e : ([(("__class__" : Str), cc)] : List (Str × Addr)).lookup y = some c := e
    rw [hcx e]
    exact ⟨_, _, hc3, rfl⟩
  · have e : ([(("__class__" : Str), cc)] : List (Str × Addr)).lookup y = some c := e
    rw [hcx e]
    exact hcn
/-- the promise -/
theorem init_ok {x : Str} {fI : Addr} (T : ErrC P K mg x C fI) : ∃ fd : FuncData, FnOk P w K mg base CX0 1 fI fd ["self", "value"] (spInit C) ∧ L2.Binds K fd ["self", "value"] [] := by
  obtain ⟨qual, oc, od, dT, kV, doc, pm, an, cda, ct, cc, osl, p1, p2, p3, q1, q2, q3, q4, q5, q6, q7, q8, q9, q10, ccl, cdd, vs0, ccs, file, tf, cl, cld, csl, dcl, dcd, dit, dn, dsl, lk, hcd, hcode, hvs, hfile, hcell, hq, hdT⟩ := T.fn
  obtain ⟨nm, qn, N, bs, bm, sn, sub, ab, col, dd, k0, k1, k2, k3, k5, hCk, hbm⟩ := T.oex.cls
  refine ⟨ksFn "__init__" qual (iArgs p1 p2 p3) (iBody q1 q2 q3 q4 q5 q6 q7 q8 q9 q10) iScope (.ref dT) kV doc pm an (.ref cda) ct cc, ⟨fun vs H Q E h => ?_, fun A outer s H args us vs Q E hr e0 hb rv hsp => ?_⟩, fun s us X hl => ?_⟩
  · obtain ⟨a, v, rfl, _⟩ := h
    rfl
  · obtain ⟨a, v, rfl, ha, k⟩ := hsp
    cases rv with
    | cons r1 rt =>
      cases rt with
      | cons r2 rn =>
        cases rn
        rename_i u
        cases r1
        have KX : K.In s.heap := e0.mod.kin.keeps fun b o e => (e0.bs b o e).1
        have lim : s.heap.NoLimit := e0.mod.nolimit.keeps fun b o e => (e0.bs b o e).1
        obtain ⟨t0, hx⟩ := exo_at e0.hok ha
        have alt : a < s.heap.objs.size := e0.hok.lt ha
        refine ks_codeAny_call_defAt (body := iBody q1 q2 q3 q4 q5 q6 q7 q8 q9 q10) (binds := [("self", .ref a), ("value", u)]) hr.depth (KX _ _ lk) rfl lim (codeRec_of KX hcd) rfl hb (show ∀ y ∈ iScope.names, y.2 ≠ .cell by decide +kernel) (by
          intro y hy
          simp only [List.mem_cons, List.not_mem_nil, or_false] at hy
          rcases hy with rfl | rfl
          · exact (show iScope.names.lookup ("self" : Str) = some .local by decide +kernel)
          · exact (show iScope.names.lookup ("value" : Str) = some .local by decide +kernel)) (fun h0 hns hk0 => ?_)
        have X0 : K.In h0 := KX.keeps hk0
        have hcl : clsIn K C = some { name := nm, bases := bs, mro := .ref C :: bm, ns := N, qualname := qn, hasDict := true, slotNames := sn, subclasses := sub, abstract := ab, collection := col, hasDel := false } := by unfold clsIn; rw [hCk] <;> rfl
        have hC0 := X0 _ _ hCk
        have hx0 := hk0 _ _ hx
        have glob0 : h0.Ns mainGlobals mg := e0.mod.glob.keeps fun b o e => hk0 _ _ (e0.bs b o e).1
        obtain ⟨mb, hmb, hbb⟩ := e0.mod.blt
        have blt0 : h0.Ns builtinsNs mb := hmb.keeps fun b o e => hk0 _ _ (e0.bs b o e).1
        have ks : (iEnv qual s.heap.objs.size fI cda cc).kindOf "super" = some .globalImplicit := show iScope.names.lookup ("super" : Str) = some .globalImplicit by decide +kernel
        have kc : (iEnv qual s.heap.objs.size fI cda cc).kindOf "__class__" = some .free := show iScope.names.lookup ("__class__" : Str) = some .free by decide +kernel
        have ksf : (iEnv qual s.heap.objs.size fI cda cc).kindOf "self" = some .local := show iScope.names.lookup ("self" : Str) = some .local by decide +kernel
        have kvl : (iEnv qual s.heap.objs.size fI cda cc).kindOf "value" = some .local := show iScope.names.lookup ("value" : Str) = some .local by decide +kernel
        show _root_.PySem.wpAt (model P w) (A.deeper (iEnv qual s.heap.objs.size fI cda cc)) (.func (iBody q1 q2 q3 q4 q5 q6 q7 q8 q9 q10) (iEnv qual s.heap.objs.size fI cda cc)) (execs (.Expr (.Call (.Attribute (.Call (.Name "super" q1) [] [] q2) "__init__" q3) [.Name "value" q4] [] q5) q6 :: [.Assign [.Attribute (.Name "self" q7) "value" q8] (.Name "value" q9) q10]) (iEnv qual s.heap.objs.size fI cda cc)) _ _ _
        refine ks_wpAt_execs_cons (ks_wpAt_Expr_any (ks_wpAt_MethodCall (pl := pure false) (ks_wpAt_super_base ks kc (by decide) rfl (hk0 _ _ (KX _ _ lk)) rfl rfl rfl (X0 _ _ hcode) rfl hvs hfile T.topS ?_) ?he))
        case he =>
          have e1 : eval (.Call (.Attribute (.Call (.Name "super" q1) [] [] q2) "__init__" q3) [.Name "value" q4] [] q5) (iEnv qual s.heap.objs.size fI cda cc) = (do
            let ov ← attributeBase (.Call (.Name "super" q1) [] [] q2) "__init__" (iEnv qual s.heap.objs.size fI cda cc) (eval (.Call (.Name "super" q1) [] [] q2) (iEnv qual s.heap.objs.size fI cda cc))
            standAt q3.atName
            methodCall (.Call (.Name "super" q1) [] [] q2) "__init__" q3 q5 (iEnv qual s.heap.objs.size fI cda cc) ov 1 (backTo q5 (starEach [.Name "value" q4] (iEnv qual s.heap.objs.size fI cda cc))) []) := rfl
          rw [e1]
          unfold methodCall methodCallPos
          simp only [hq, Bool.or_true, if_true, pure_bind]
          rfl
        refine ks_loadName_global rfl ks (Calls.loadGlobal_builtin (env := iEnv qual s.heap.objs.size fI cda cc) glob0 T.noS blt0 ((hbb _ (by decide +kernel)).trans (by first | boot_by_name | rfl | kernel_rfl)) ⟨rfl, ?_⟩)
        refine wpAny_loadName_free rfl kc rfl ⟨_, X0 _ _ hcell, rfl⟩ ?_
        refine wpAny_loadName_local rfl ksf hns (by first | rfl | with_unfolding_all rfl | kernel_rfl) ?_
        refine ks_wpAny_isType_cls hC0 rfl ⟨rfl, ?_⟩
        refine ks_wpAny_call_super hC0 rfl hx0 rfl (fun c e => by cases e) (looks_mroIn X0 T.own) (fun h1 e1 k1 => ?_)
        have X1 : K.In h1 := X0.keeps k1
        have nC : a ≠ C := fun z => by
          rw [z] at hx0
          rw [hC0] at hx0
          cases hx0
        have hT1 : Looks (model P w) h1 (typeOf (.ref a)) (.ref C) := fun A Q E s k q => wpAny_typeOf_ref (k _ _ (k1 _ _ hx0)) q
        have hI1 : Looks (model P w) h1 (isInstance (.ref a) (.type "ValueError")) true := hT1.andThen (looks_subIn X1 T.sub)
        have hal : alongIn K "__init__" (((.ref C :: bm).dropWhile (· != .ref C)).drop 1) = some (some (.builtin "ValueError.__init__")) := by
          have z := T.al
          unfold ks_superIn at z
          rw [hcl] at z
          exact z
        refine kxs_getMethod kxs_ValueError e1 (looks_opaque X1 T.noAny) (l₀ := .ref C :: bm) (fun A Q E s k q => wpAny_bind ((looks_clsIn X1 hcl) A _ E s k (wpAny_pure q))) rfl X1 hal hI1 nC (by decide +kernel) ?_
        have k2 : ∀ b o, h1.get? b = some o → (h1.push (kxs_mw "ValueError.__init__" a)).get? b = some o := fun b o e => Heap.get?_push_of_some _ e
        have kA : ∀ b o, h0.get? b = some o → (h1.push (kxs_mw "ValueError.__init__" a)).get? b = some o := fun b o e => k2 _ _ (k1 _ _ e)
        have hu2 : (h1.push (kxs_mw "ValueError.__init__" a)).get? h1.objs.size = some (kxs_mw "ValueError.__init__" a) := Heap.get?_push_at rfl rfl
        show wpAny _ _ (callWith q5 (.ref h1.objs.size) [] (backTo q5 (starEach [.Name "value" q4] (iEnv qual s.heap.objs.size fI cda cc))) []) _ _ _
        have hst : starEach [.Name "value" q4] (iEnv qual s.heap.objs.size fI cda cc) = (false, eval (.Name "value" q4) (iEnv qual s.heap.objs.size fI cda cc)) :: starEach [] (iEnv qual s.heap.objs.size fI cda cc) := rfl
        rw [hst]
        refine kxs_callWith (i := "ValueError.__init__") (x := a) (by rfl) (evalArgs_plain (Calls.spliced_cons (wpAny_Name (wpAny_loadName_local rfl kvl (hns.keeps kA) (by first | rfl | with_unfolding_all rfl | kernel_rfl) (Calls.spliced_nil ⟨hu2, ?_⟩)) (by decide))))
        refine mw_call (kA _ _ hC0) (kA _ _ hx0) hu2 (by rw [sizeLine_eq]; exact (by decide : 1 ≤ 16777216)) fun h3 t3 k3 e3 => ?_
        have nL : s.heap.objs.size ≠ a := Nat.ne_of_gt alt
        have hns3 : h3.Ns s.heap.objs.size (fun y => (List.reverse [(("self" : Str), Value.ref a), (("value" : Str), u)]).lookup y) := by
          obtain ⟨o, es, ep, ho, r⟩ := hns
          exact ⟨o, es, ep, k3 _ _ nL (kA _ _ ho), r⟩
        have kp3 : ∀ b o, b ≠ a → s.heap.get? b = some o → h3.get? b = some o := fun b o hb e => k3 b o hb (kA _ _ (hk0 _ _ e))
        refine wpAt_of_wpAny ?_
        have hp : PSs (iniCx P w K mg base qual fI cda cc A outer s H) [.Assign [.Attribute (.Name "self" q7) "value" q8] (.Name "value" q9) q10] _ := pss_one (ps_ost (f := "value") (pv 0) (pv 1))
        have J := fun tk => ini_inv (qual := qual) (f := fI) (cda := cda) (cc := cc) (tk := tk) e0 hr.hd r2 ⟨_, _, _, hcell⟩ ha hns3 kp3 e3
        refine wpAny_mono (hp.run [] _ [some (.ref a), some v] H { nx := fun _ H' => Q .non H', rt := Q } (J _) ⟨v, rfl, .ref a, rfl, a, C, rfl, T.oex, T.noV, .inl ⟨ha, fun dx n ne => k dx n ne⟩⟩) (fun fl s' hs => ?_) fun e s' z => z.elim
        cases fl with
        | next =>
          obtain ⟨σ', H', J', q⟩ := hs
          exact ⟨.non, H', J'.os, J'.bare, J'.base, J'.hok, rfl, q⟩
        | ret u' =>
          obtain ⟨v', σ', H', J', rv', q⟩ := hs
          exact ⟨v', H', J'.os, J'.bare, J'.base, J'.hok, rv', q⟩
        | brk =>
          obtain ⟨_, _, _, q⟩ := hs
          exact q.elim
        | cont =>
          obtain ⟨_, _, _, q⟩ := hs
          exact q.elim
  · match us, hl with
    | [u1, u2], _ =>
      refine BindsTo.of_looks fun M => ?_
      have e1 : ∃ k, bindArgs (ksFn "__init__" qual (iArgs p1 p2 p3) (iBody q1 q2 q3 q4 q5 q6 q7 q8 q9 q10) iScope (.ref dT) kV doc pm an (.ref cda) ct cc) ⟨[u1, u2], []⟩ = seqItems? (.ref dT) >>= k ∧ k (some #[dit]) = pure ((["self", "value"] : List Str).zip ([u1, u2] ++ [])) := ⟨_, rfl, by first | rfl | with_unfolding_all rfl | kernel_rfl⟩
      obtain ⟨k, e1, e2⟩ := e1
      rw [e1]
      exact looks_items X hdT rfl (.of_pure e2)
end
end ErX

/-! raise x(e) of such an error; try .. except .. as e with a suite that keeps the error by another name; the kept error's field and class. -/
namespace ErX
open PySem PySem.Spec PyProof.Rows L2 PySem.W PySem.Calls
/-- readings may be weakened -/
theorem pa_up {X : Cx} {es : List Expr} {t : TA} (h : PA X es t) : PA X es (fun σ H Q => ∃ R : List V → Hp → Prop, t σ H R ∧ ∀ vs H1, R vs H1 → Q vs H1) :=
  ⟨fun pos pins s σ H Q I ⟨R, hR, hq⟩ => thn (h.run pos pins s σ H R I hR) fun us s1 ⟨vs, H1, I1, r, q⟩ => ⟨vs, H1, I1, r, hq _ _ q⟩⟩
/-! ### raise x(e) -/
def tErr (C : Addr) (ta : TA) : L2.St → Hp → XK → Prop := fun σ H Q => ta σ H fun vs H1 => ∃ v, vs = [v] ∧ ∀ d, H1 d = none → Q (.ref C) (some d) (upd H1 d (.xd [("value", v)]))
section
variable {X : Cx} {e : Expr} {ta : TA} {x : Str} {C fI : Addr} {p pos pos2 : Pos} {W : WX}
theorem pmk_err (T : ErrC X.prog X.K X.mg x C fI) (hr : Room 2 X.A) (hg : Gl X x) (ha : PA X [e] ta) (hdb : (x == ("__debug__" : Str)) = false := by decide)
    (he : starEach (e :: []) X.env = (false, eval e X.env) :: starEach [] X.env := by rfl) (hpl : (backTo pos (starEach [] X.env)).any (·.1) = false := by rfl) :
    PMk X (.Call (.Name x p) [e] [] pos) (tErr C ta) := by
  obtain ⟨fd, F, B⟩ := init_ok (w := X.w) (base := X.base) T
  have hm := pmk_oex (p := p) (pos := pos) (dvs := []) T.oex T.iC T.tI F hr B .nil (fun _ _ _ _ _ _ _ h => h.elim) hg T.gC (pa_up ha) hdb he hpl
  intro pins s σ H Q I h
  refine hm pins s σ H Q I ⟨_, h, fun vs H1 hq => ?_⟩
  obtain ⟨v, rfl, hq⟩ := hq
  refine ⟨(by decide : 1 ≤ 1000), fun a hn => ⟨a, v, rfl, upd_same, fun d hd nd => ⟨rfl, d, [("value", v)], upd_same, ?_, ?_, ?_⟩⟩⟩
  · rw [upd_ne nd, upd_same]
  · rw [upd_ne nd] at hd
    exact hd
  · have hd1 : H1 d = none := by
      rw [upd_ne nd] at hd
      exact hd
    have eq : upd (del (upd (upd (upd H1 a (exo a C none)) d (exd d [("value", v)])) a (exo a C (some d))) a) d (.xd [("value", v)]) = upd H1 d (.xd [("value", v)]) := by
      funext b
      by_cases hb : b = d
      · rw [hb, upd_same, upd_same]
      · rw [upd_ne hb, upd_ne hb]
        by_cases hba : b = a
        · rw [hba, del_same, hn]
        · rw [del_ne hba, upd_ne hba, upd_ne hb, upd_ne hba]
    rw [eq]
    exact hq d hd1
/-- raise x(e) -/
def tRaiseE (C : Addr) (W : WX) (ta : TA) : TS := fun _ σ H => tErr C ta σ H fun cls d H' => W cls d σ H'
theorem ps_raiseE (hc : X.calm = true) (T : ErrC X.prog X.K X.mg x C fI) (hr : Room 2 X.A) (tk : Takes X W) (ha : PA X [e] ta) (hg : Gl X x := by rfl) (hdb : (x == ("__debug__" : Str)) = false := by decide)
    (he : starEach (e :: []) X.env = (false, eval e X.env) :: starEach [] X.env := by rfl) (hpl : (backTo pos (starEach [] X.env)).any (·.1) = false := by rfl) :
    PS X (.Raise (some (.Call (.Name x p) [e] [] pos)) none pos2) (tRaiseE C W ta) := ps_raise hc tk (pmk_err T hr hg ha hdb he hpl)
end
/-! ### a kept error -/
/-- at a: an error of the class cls with the own dict d -/
def heldO (a : Addr) (cls : Value) (d : Option Addr) : HO := .ext fun h => ∃ (oe : Obj) (vs : Array Value), h.get? a = some oe ∧ Zc cls d oe ∧ oe.data = .fields vs
theorem heldO_ok {P : Program} {w : World} {H : Hp} {h : Heap} {a : Addr} {cls : Value} {d : Option Addr} {oe : Obj} {vs : Array Value} (e : h.get? a = some oe) (z : Zc cls d oe) (f : oe.data = .fields vs) : ObjOk P w H h a (heldO a cls d) :=
  ⟨⟨oe, vs, e, z, f⟩, ⟨oe, e⟩, fun h1 h2 ⟨oe', vs', e', z', f'⟩ st => ⟨oe', vs', st _ e', z', f'⟩⟩
theorem heldO_at {P : Program} {w : World} {H : Hp} {h : Heap} {a : Addr} {cls : Value} {d : Option Addr} (hok : HOk P w H h) (he : H a = some (heldO a cls d)) : ∃ (oe : Obj) (vs : Array Value), h.get? a = some oe ∧ Zc cls d oe ∧ oe.data = .fields vs := by
  obtain ⟨q, _⟩ := hok a _ he
  exact q
theorem heldO_tup {a : Addr} {cls : Value} {d : Option Addr} {xs : List V} : heldO a cls d ≠ .tup xs := fun z => by
  unfold heldO at z
  cases z
section
variable {X : Cx} {pins : List (Addr × Obj)} {σ : L2.St} {H : Hp} {s : Shared} {a : Addr} {oe : Obj} {vs : Array Value} {cls : Value} {d : Option Addr}
theorem _root_.L2.Inv.unsuiteP {q : Addr × Obj} {pn' : List (Addr × Obj)} (I : Inv (X.suite a (q :: (X.pn ++ pins))) pn' σ H s) (ok : X.Ok) : Inv X (q :: pins) σ H s :=
  ⟨ok, I.os, I.bare, I.base, I.loc, I.cell, I.free, I.freeC, fun p hp => I.pin p (by
    refine List.mem_append_left _ ?_
    rcases List.mem_append.mp hp with z | z
    · exact List.mem_cons_of_mem _ (List.mem_append_left _ z)
    · rcases List.mem_cons.mp z with e | z
      · rw [e]
        exact List.mem_cons_self
      · exact List.mem_cons_of_mem _ (List.mem_append_right _ z)), I.hok, I.len⟩
/-- a pinned error is tracked from now on -/
theorem track (I : Inv X ((a, oe) :: pins) σ H s) (hz : Zc cls d oe) (hd : oe.data = .fields vs) (n0 : X.s_0.heap.get? a = none) (np : ∀ p ∈ X.pn ++ pins, p.1 ≠ a) : Inv X pins σ (upd H a (heldO a cls d)) s := by
  obtain ⟨ha, na, nL, nF, nc⟩ := I.pin (a, oe) (List.mem_append_right _ List.mem_cons_self)
  have ha : s.heap.get? a = some oe := ha
  have na : H a = none := na
  have ne : ∀ b o, H b = some o → b ≠ a := fun b o e => ne_of_none e na
  refine ⟨I.ok, I.os, I.bare, ⟨I.base.keep, I.base.slot, fun b o e n hx => ?_, I.base.there, fun b xs e => ?_, fun b o u e => ?_, fun b ps e => ?_⟩, I.loc, I.cell, ?_, fun y c e => ?_, fun p hp => ?_, fun b u e => ?_, I.len⟩
  · have hb : b ≠ a := fun z => by rw [z, n0] at e; cases e
    rw [upd_ne hb]
    exact I.base.free b o e n hx
  · have q := I.base.tups b xs e
    rw [upd_ne (ne _ _ q)]
    exact q
  · have q := I.base.frzs b o u e
    rw [upd_ne (ne _ _ q)]
    exact q
  · obtain ⟨more, q⟩ := I.base.tbls b ps e
    exact ⟨more, by rw [upd_ne (ne _ _ q)]; exact q⟩
  · rw [upd_ne (fun z => nL z.symm)]
    exact I.free
  · have hb : c ≠ a := fun z => by
      obtain ⟨v, o, ho, hv⟩ := I.cell y c e
      rw [z, ha] at ho
      cases ho
      exact nc v hv
    rw [upd_ne hb]
    exact I.freeC y c e
  · have hp' : p ∈ X.pn ++ ((a, oe) :: pins) := by
      rcases List.mem_append.mp hp with z | z
      · exact List.mem_append_left _ z
      · exact List.mem_append_right _ (List.mem_cons_of_mem _ z)
    obtain ⟨e, n, x1, x2, x3⟩ := I.pin p hp'
    exact ⟨e, by rw [upd_ne (np p hp)]; exact n, x1, x2, x3⟩
  · by_cases hb : b = a
    · rw [hb, upd_same] at e
      cases e
      rw [hb]
      exact heldO_ok ha hz hd
    · rw [upd_ne hb] at e
      exact (I.hok b u e).stay (fun c v _ q => q) (fun c q => by rw [upd_ne (ne _ _ q)]; exact q) fun c xs q => by rw [upd_ne (ne _ _ q)]; exact q
end
/-! ### try: body / except x as n: suite, the suite raises nothing and goes on; the caught error stays known behind it -/
def wKeep (K : PySem.W.Frag) (c : Value) (i : Nat) (ts : Addr → Value → Option Addr → TS) (Wout : WX) (D : Ends) : WX := fun cls d σ H =>
  ∃ b, PySem.W.exmOne K cls c = some b ∧ (b = true → ∀ a, H a = none → ts a cls d { nx := fun σ' H' => D.nx (σ'.set i none) (upd H' a (heldO a cls d)), rt := fun _ _ => False } (σ.set i (some (.ref a))) H) ∧ (b = false → Wout cls d σ H)
section
variable {X : Cx} {x n : Str} {c : Value} {i : Nat} {body suite : List Stmt} {b0 : Stmt} {np pos pos' : Pos} {tb : WX → TS} {ts : Addr → Value → Option Addr → TS} {Wout : WX}
theorem ps_try_keep (hs : X.stack = X.env :: X.outer) (hf : X.env.frame = some X.env.locals) (hex : X.ex = []) (hN : X.N.Nodup) (hi : X.N[i]? = some n) (hln : X.env.kindOf n = some .local) (hc : Names X x c) (tk : Takes X Wout)
    (hb : ∀ (W : WX) (pn : List (Addr × Obj)) (xe : Value → Shared → Prop), Takes (X.tr pn xe) W → PassesOwn (model X.prog X.w) X.A X.env xe → PSs (X.tr pn xe) body (tb W))
    (hsu : ∀ (a : Addr) (oe : Obj) (cls : Value) (d : Option Addr) (pn : List (Addr × Obj)), Zc cls d oe → (∃ vs, oe.data = .fields vs) → PSs (X.suite a ((a, oe) :: pn)) (b0 :: suite) (ts a cls d)) :
    PS X (.Try body [.ExceptHandler (some (.Name x np)) (some n) (b0 :: suite) pos'] [] [] pos) (fun D σ H => tb (wKeep X.K c i ts Wout D) D σ H) := by
  refine ⟨fun pins s σ H D I h => ?_⟩
  have ok := I.ok
  have hfr : X.A.frames = some (X.env :: X.outer) := by rw [ok.frames, hs]
  refine wpAny_Try_except ?_
  refine wpAny_mono ((hb (wKeep X.K c i ts Wout D) (X.pn ++ pins) (fun e s1 => wpAny (model X.prog X.w) X.A (noteFrame e X.env) (fun _ s2 => wpAny (model X.prog X.w) X.A (setFlight e none) (fun _ s3 =>
    wpAny (model X.prog X.w) X.A (handleBy e X.env [.ExceptHandler (some (.Name x np)) (some n) (b0 :: suite) pos']) (SP X pins D) X.xe s3) X.xe s2) X.xe s1) (fun u s' xx => ?_) PassesOwn.looking).run [] s σ H D (I.toTry _) h) (fun f s1 hsp => ?_) (fun e s1 he => he)
  · obtain ⟨a, B, sI, pins', σ', H', cls, d, rfl, J', nb, up, sky, na, os, ag, b, hb1, hyes, hno⟩ := xx
    have J : Inv X pins σ' H' sI := J'.ofTry ok
    have sky' : Sky B (X.env :: X.outer) a (Zc cls d) X.env.locals s'.heap := by
      rw [← hs]
      exact sky
    have hBa : B.get? a = none := by
      rcases sky' with z | z | z
      · exact z.2.1
      · exact z.2.1
      · exact z.2.1
    refine Sky.land Zc.steady hfr hf sky' fun h3 fl3 up3 => ?_
    have J3 : Inv X pins σ' H' { s' with heap := h3 } := J.landed nb fl3.1 (up.trans up3) os ag
    obtain ⟨oe3, vs3, he3, hz3, hd3⟩ := fl3.there
    have nfr : a ∉ frs (X.env :: X.outer) := fun hm => by
      obtain ⟨_, o', e', hnf⟩ := fl3.2.2.1.mem hm
      rw [he3] at e'
      cases e'
      exact hnf _ hd3
    have nL : a ≠ X.env.locals := fun z => nfr (List.mem_filterMap.mpr ⟨X.env, List.mem_cons_self, by rw [hf, z]⟩)
    have nF : a ∉ X.fs := fun hm => by
      obtain ⟨e, he, q⟩ := List.mem_filterMap.mp hm
      exact nfr (List.mem_filterMap.mpr ⟨e, List.mem_cons_of_mem _ he, q⟩)
    have noI : ∀ o, sI.heap.get? a ≠ some o := fun o z => by
      have z2 := nb a o z (by rw [hs]; exact nfr)
      rw [hBa] at z2
      cases z2
    have n0 : X.s_0.heap.get? a = none := by
      cases z : X.s_0.heap.get? a with
      | none => rfl
      | some o =>
        obtain ⟨o', q⟩ := J.base.there a o z (by rw [hex]; exact fun q => nomatch q)
        exact absurd q (noI o')
    have npn : ∀ p ∈ X.pn ++ pins, p.1 ≠ a := fun p hp z => by
      obtain ⟨e, _⟩ := J.pin p hp
      rw [z] at e
      exact noI _ e
    have S3 := J3.suite he3 hd3 na nL nF
    refine wpAny_handleBy_cons (codeAny_handlers_test ?_) (by intro q; cases q)
    have LT : PySem.W.Looks (model X.prog X.w) h3 (typeOf (.ref a)) cls := fun A Q E s k q => wpAny_typeOf_ref (k _ _ he3) (by rw [hz3.1]; exact q)
    have LM := PySem.W.exm_one (M := model X.prog X.w) (J3.kIn) LT hb1
    have test : ∀ {Q : Value → Shared → Prop} {E : Value → Shared → Prop}, Q c { s' with heap := h3 } → wpAny (model X.prog X.w) (X.A.mark (some (.ref a))) (eval (.Name x np) X.env) Q E { s' with heap := h3 } := fun {Q E} q => by
      obtain ⟨hg, hdbg, hm | ⟨hm, hv, hnn⟩⟩ := hc
      · exact ld_glob (X := X.suite a ((a, oe3) :: (X.pn ++ pins))) S3 hg hm q hdbg
      · exact ld_blt (X := X.suite a ((a, oe3) :: (X.pn ++ pins))) S3 hg hm hv q hnn hdbg
    refine test (LM.here ?_)
    cases b with
    | true =>
      refine codeAny_handlers_suite_as ?_
      refine HandSPX.lands_againZ fl3 fun h4 fl4 up4 => ?_
      have J4 : Inv X pins σ' H' { s' with heap := h4 } := J.landed nb fl4.1 ((up.trans up3).trans up4) os ag
      obtain ⟨oe4, vs4, he4, hz4, hd4⟩ := fl4.there
      have S4 := J4.suite he4 hd4 na nL nF
      refine store_ok (X := X.suite a ((a, oe4) :: (X.pn ++ pins))) (v := .ref a) S4 hN hi (.inl hln) rfl (fun s5 S5 => ?_) (.inr hln)
      refine wpAny_mono ((hsu a oe4 cls d (X.pn ++ pins) hz4 ⟨_, hd4⟩).run [] s5 _ H' _ S5 (hyes rfl a na)) (fun f s6 hsp => ?_) (fun _ _ z => False.elim z)
      cases f with
      | next =>
        obtain ⟨σ6, H6, S6, q6⟩ := hsp
        exact gone_ok (S6.unsuiteP ok) hN hi hln fun s7 J7 => ⟨_, _, track J7 hz4 hd4 n0 npn, q6⟩
      | brk =>
        obtain ⟨σ6, H6, S6, q6⟩ := hsp
        exact q6.elim
      | cont =>
        obtain ⟨σ6, H6, S6, q6⟩ := hsp
        exact q6.elim
      | ret u =>
        obtain ⟨v6, σ6, H6, S6, r6, q6⟩ := hsp
        exact q6.elim
    | false =>
      show wpAny _ X.A (handleBy (.ref a) X.env []) _ _ _
      refine wpAny_handleBy_nil ?_
      obtain ⟨k1, k2, k3, oe, vs, T, oT, ts', he, hz, hd, h1, hr⟩ := id fl3
      unfold PySem.passOn
      refine wpAny_bind (wpAny_field he hd h1 ?_)
      rw [if_neg (show ¬ ((Value.ref T == Value.none) = true) from by simp)]
      have fin : wpAny (model X.prog X.w) X.A (setFlight (.ref a) X.env.frame) (fun _ s4 => wpAny (model X.prog X.w) X.A (throw (.ref a) : Sem Flow) (SP X pins D) X.xe s4) X.xe { s' with heap := h3 } := by
        rw [hf]
        refine HandSPX.setFlight_upZ fl3 fun h4 hh4 up4 => wpAny_throw (tk _ _ ?_)
        exact ⟨a, B, sI, pins, σ', H', cls, d, rfl, J, nb, (up.trans up3).trans up4, .inr (.inr (by rw [hs]; exact hh4)), na, os, ag, hno rfl⟩
      first
        | exact wpAny_bind (wpAny_pure (wpAny_bind fin))
        | exact wpAny_bind fin
  · cases f with
    | next =>
      obtain ⟨σ', H', J', q⟩ := hsp
      exact wpAny_execs_nil ⟨σ', H', J'.ofTry ok, q⟩
    | brk =>
      obtain ⟨σ', H', J', q⟩ := hsp
      exact ⟨σ', H', J'.ofTry ok, q⟩
    | cont =>
      obtain ⟨σ', H', J', q⟩ := hsp
      exact ⟨σ', H', J'.ofTry ok, q⟩
    | ret u =>
      obtain ⟨v, σ', H', J', r, q⟩ := hsp
      exact ⟨v, σ', H', J'.ofTry ok, r, q⟩
end
/-! ### the kept error's field, its class -/
def tHFld (K : PySem.W.Frag) (f : Str) (te : TE) : TE := fun σ H Q => te σ H fun x H1 => ∃ (a C dd : Addr) (fs : List (Str × V)) (v : V), x = .ref a ∧ H1 a = some (heldO a (.ref C) (some dd)) ∧ XfC K C ∧ PySem.W.findIn K (.ref C) f = some none ∧ H1 dd = some (.xd fs) ∧ fs.lookup f = some v ∧ Q v H1
/-- isinstance(x, c): x a kept error, or any other value -/
def rIsH (K : PySem.W.Frag) : List V → Hp → VK → Prop := fun xs H Q => rIsi K xs H Q ∨ ∃ (a D : Addr) (d : Option Addr) (c : V) (cv : Value) (b : Bool), xs = [.ref a, c] ∧ H a = some (heldO a (.ref D) d) ∧ (∀ dd, d = some dd → ∃ fs, H dd = some (.xd fs)) ∧ ExcC K D ∧ ClsV c cv ∧ PySem.W.kitOne K (.ref D) cv = some b ∧ Q (.bl b) H
section
variable {X : Cx}
theorem pe_hfld {e : Expr} {te : TE} {pos : Pos} {n : Str} (he : PE X e te) (hb : attributeBase e n X.env (eval e X.env) = eval e X.env := by rfl) : PE X (.Attribute e n pos) (tHFld X.K n te) := by
  refine ⟨fun pins s σ H Q I h => ?_⟩
  refine attr_of hb (thn (he.run pins s σ H _ I h) fun u s1 hh => ?_)
  obtain ⟨x, H1, I1, rx, a, C, dd, fs, v, ex, ha, T, hno, ea, l, q⟩ := hh
  subst ex
  obtain rfl : u = Value.ref a := rx
  obtain ⟨oe, vs, hga, hz, hd⟩ := heldO_at I1.hok ha
  have hx : ObjOk X.prog X.w H1 s1.heap dd (.xd fs) := I1.hok dd _ ea
  obtain ⟨mA, hns, hr⟩ := hx
  obtain ⟨od, ho, hl⟩ := lookIn_ns hns
  obtain ⟨u, hu, ru⟩ := RelO.some_of (v := v) (o := mA n) (by rw [← l]; exact hr n)
  have J : PySem.W.InstAt s1.heap a oe C (some od) := ⟨hga, hz.1, by unfold PySem.W.notCls; rw [hd] <;> rfl, by rw [hz.2]; exact ho⟩
  exact HandSPX.exc_get I1.kIn J T.ga T.gg T.exC (PySem.W.findObj_own T.hdC hno rfl (by rw [hl, hu])) (handed_of ru) ⟨v, H1, I1.tok _, ru, q⟩
theorem call_isH : CallR X (.builtin "isinstance") (rIsH X.K) := by
  intro pins s σ H xs us Q I r h
  rcases h with h | ⟨a, D, d, c, cv, b, rfl, ha, hdd, C, k, e, q⟩
  · exact call_isi pins s σ H xs us Q I r h
  · obtain ⟨u1, u2, rfl, r1, r2⟩ := vals2 r
    have e2 := k.eq r2
    subst e2
    obtain rfl : u1 = Value.ref a := r1
    obtain ⟨oe, vs, hga, hz, hv⟩ := heldO_at I.hok ha
    have J : ∃ od, PySem.W.InstAt s.heap a oe D od := by
      obtain ⟨oc, od0, oda, osl⟩ := oe
      obtain ⟨h1, h2⟩ := hz
      dsimp only at h1 h2 hv
      subst h1 h2 hv
      cases od0 with
      | none => exact ⟨none, hga, rfl, rfl, trivial⟩
      | some dd =>
        obtain ⟨fs, hfs⟩ := hdd dd rfl
        obtain ⟨mA, ⟨o, es, ep, ho, _⟩, _⟩ := I.hok dd _ hfs
        exact ⟨some o, hga, rfl, rfl, ho⟩
    obtain ⟨od, J⟩ := J
    have hcl : (PySem.W.clsIn X.K D).isSome = true := by
      obtain ⟨cd, hc, _⟩ := PySem.W.any_some C.hd
      rw [hc]
      rfl
    exact PySem.W.kia_one (PySem.W.kitx_exc (x := a) (ox := oe) (od := od) hcl C.hg C.hk C.hs C.ha C.hn C.ht C.hm) I.kIn J e (fun z => nomatch z) fun tk => ⟨.bl b, H, I.kept (t' := tk) fun _ _ z => z, rfl, q⟩
end
end ErX

/-! Lambdas without parameters as values: made, handed down any number of calls, called there. -/
namespace ClX
open PySem PySem.Spec PyProof.Rows L2 PySem.W LamX ErX
/-- at a stands just this object -/
def pinO (o : Obj) (a : Addr) : HO := .ext fun h => h.get? a = some o
theorem pinO_ok {P : Program} {w : World} {H : Hp} {h : Heap} {a : Addr} {o : Obj} (e : h.get? a = some o) : ObjOk P w H h a (pinO o a) := ⟨e, ⟨o, e⟩, fun h1 h2 x st => st _ x⟩
theorem pinO_at {P : Program} {w : World} {H : Hp} {h : Heap} {a : Addr} {o : Obj} (hok : HOk P w H h) (e : H a = some (pinO o a)) : h.get? a = some o := by
  obtain ⟨q, _⟩ := hok a _ e
  exact q
/-- what is told by ext stays -/
def ExtK (H H' : Hp) : Prop := ∀ a φ, H a = some (.ext φ) → H' a = some (.ext φ)
theorem ExtK.refl (H : Hp) : ExtK H H := fun _ _ h => h
theorem ExtK.trans {H H1 H2 : Hp} (a : ExtK H H1) (b : ExtK H1 H2) : ExtK H H2 := fun c φ h => b c φ (a c φ h)
theorem ExtK.of {H H' : Hp} (h : ∀ a o, H a = some o → H' a = some o) : ExtK H H' := fun a φ e => h a _ e
/-- a callable value: called with nothing, in any state in which what was told by ext still stands, it does as tl reads -/
structure CloOk (P : Program) (w : World) (K : Frag) (mg : Str → Option Value) (base : Heap) (k : Nat) (H : Hp) (f : Addr) (tl : XK → Hp → VK → Prop) : Prop where
  fn : ∃ o fd, H f = some (pinO o f) ∧ o.data = .func fd ∧ o.cls = .type "function" ∧ o.dict = none ∧ o.slots = #[]
  run : ∀ (A : Around) (outer : List Env) (s : Shared) (H' : Hp) (Q : VK) (E : XK), Room k A → Env0 P w K mg base A outer s H' → ExtK H H' → tl E H' Q → codeAny (model P w) A (.call (.ref f) ⟨[], []⟩) (CR (L2.CX P w) outer P w H' s Q E) s
theorem CloOk.ext {P : Program} {w : World} {K : Frag} {mg : Str → Option Value} {base : Heap} {k : Nat} {H H1 : Hp} {f : Addr} {tl : XK → Hp → VK → Prop} (c : CloOk P w K mg base k H f tl) (e : ExtK H H1) : CloOk P w K mg base k H1 f tl :=
  ⟨by obtain ⟨o, fd, h1, h2⟩ := c.fn; exact ⟨o, fd, e _ _ h1, h2⟩, fun A outer s H' Q E hr e0 x => c.run A outer s H' Q E hr e0 (e.trans x)⟩
section
variable {X : Cx}
/-- x(): x holds a callable value -/
theorem pe_clo {i k : Nat} {a : Str} {W : WX} {p1 p2 : Pos} (tk : Takes X W) (hr : Room k X.A) (hN : X.N[i]? = some a) (hv : Vis X.env.scope a) (hd : (a == ("__debug__" : Str)) = false := by decide) (hcd : (a == ("__classdict__" : Str)) = false := by decide) :
    PE X (.Call (.Name a p1) [] [] p2) (fun σ H Q => ∃ (f : Addr) (tl : XK → Hp → VK → Prop) (E : XK), σ[i]? = some (some (.ref f)) ∧ CloOk X.prog X.w X.K X.mg X.base k H f tl ∧ (∀ cls d σ' H', E cls d H' → W cls d σ' H') ∧ tl E H Q) := by
  refine ⟨fun pins s σ H Q I h => ?_⟩
  obtain ⟨f, tl, E, hs, C, hW, ht⟩ := h
  refine wpAny_Call_Name_kw (thn ((pe_var (pos := p1) (i := i) hN hv hd hcd).run pins s σ H (fun v H1 => v = .ref f ∧ H1 = H) I ⟨.ref f, hs, rfl, rfl⟩) fun u s1 ⟨v, H1, I1, r1, q1⟩ => ?_)
  obtain ⟨ev, eH⟩ := q1
  subst ev
  rw [eH] at I1
  obtain rfl : u = Value.ref f := r1
  obtain ⟨o, fd, h1, h2, h3, h4, h5⟩ := C.fn
  have of1 := pinO_at I1.hok h1
  obtain ⟨oc, od, oda, osl⟩ := o
  dsimp only at h2 h3 h4 h5
  subst h2 h3 h4 h5
  refine PySem.W.callWith_F0 ⟨_, _, _, _, of1⟩ ?_
  have hx : Passes (L2.CX X.prog X.w) X E := passes_call tk hW
  refine wpAny_call (codeAny_mono (C.run X.A X.stack s1 H Q E hr I1.env0 (ExtK.refl H) ht) fun r s' hq => ?_)
  cases r with
  | error e => exact hx pins σ H s1 e s' I1 hq
  | ok fl =>
    cases fl with
    | ret u => exact I1.after hq
    | next => exact False.elim hq
    | brk => exact False.elim hq
    | cont => exact False.elim hq
end
/-! ### the cells of a frame, pinned for a while -/
open Classical in
noncomputable def csOf (cells : List (Str × Addr)) (h : Heap) : Addr → Option Obj := fun b => if ∃ x, cells.lookup x = some b then h.get? b else none
def over (cs : Addr → Option Obj) (H : Hp) : Hp := fun b => match cs b with
  | some o => some (pinO o b)
  | none => H b
def mask (cs : Addr → Option Obj) (H : Hp) : Hp := fun b => match cs b with
  | some _ => none
  | none => H b
theorem over_some {cs : Addr → Option Obj} {H : Hp} {b : Addr} {o : Obj} (h : cs b = some o) : over cs H b = some (pinO o b) := by
  unfold over
  rw [h]
theorem over_none {cs : Addr → Option Obj} {H : Hp} {b : Addr} (h : cs b = none) : over cs H b = H b := by
  unfold over
  rw [h]
theorem mask_some {cs : Addr → Option Obj} {H : Hp} {b : Addr} {o : Obj} (h : cs b = some o) : mask cs H b = none := by
  unfold mask
  rw [h]
theorem mask_none {cs : Addr → Option Obj} {H : Hp} {b : Addr} (h : cs b = none) : mask cs H b = H b := by
  unfold mask
  rw [h]
theorem mask_free {cs : Addr → Option Obj} {H : Hp} {b : Addr} (h : H b = none) : mask cs H b = none := by
  cases e : cs b with
  | none => rw [mask_none e, h]
  | some o => exact mask_some e
theorem mask_at {cs : Addr → Option Obj} {H : Hp} {b : Addr} {o : HO} (h : mask cs H b = some o) : cs b = none ∧ H b = some o := by
  cases e : cs b with
  | none =>
    rw [mask_none e] at h
    exact ⟨rfl, h⟩
  | some _ =>
    rw [mask_some e] at h
    cases h
/-- what is pinned stands in the heap -/
def CsIn (cs : Addr → Option Obj) (h : Heap) : Prop := ∀ b o, cs b = some o → h.get? b = some o
theorem pinO_own {o : Obj} {a x : Addr} : pinO o a ≠ .own x := fun z => by
  unfold pinO at z
  cases z
theorem pinO_tup {o : Obj} {a : Addr} {xs : List V} : pinO o a ≠ .tup xs := fun z => by
  unfold pinO at z
  cases z
section
variable {P : Program} {w : World} {H H' : Hp} {h h' : Heap} {cs : Addr → Option Obj}
/-- pinned over what is held, with nothing tracked there -/
theorem HOk.over (ok : HOk P w H h) (c : CsIn cs h) (n : ∀ b o, cs b = some o → H b = none) : HOk P w (over cs H) h := fun b u e => by
  cases q : cs b with
  | some o =>
    rw [over_some q] at e
    cases e
    exact pinO_ok (c b o q)
  | none =>
    rw [over_none q] at e
    have ne : ∀ d u, H d = some u → cs d = none := fun d u z => by
      cases y : cs d with
      | none => rfl
      | some o =>
        rw [n d o y] at z
        cases z
    exact (ok b u e).stay (fun _ _ _ z => z) (fun d z => by rw [over_none (ne d _ z)]; exact z) fun d xs z => by rw [over_none (ne d _ z)]; exact z
/-- the pins taken off -/
theorem HOk.mask (ok : HOk P w H h) (n : ∀ b o, cs b = some o → H b = some (pinO o b)) : HOk P w (mask cs H) h := fun b u e => by
  obtain ⟨q, e⟩ := mask_at e
  have ne : ∀ d u, H d = some u → (∀ o, u ≠ pinO o d) → cs d = none := fun d u z y => by
    cases x : cs d with
    | none => rfl
    | some o =>
      rw [n d o x] at z
      exact absurd (Option.some.inj z).symm (y o)
  exact (ok b u e).stay (fun _ _ _ z => z) (fun d z => by rw [mask_none (ne d _ z fun o y => pinO_own y.symm)]; exact z) fun d xs z => by rw [mask_none (ne d _ z fun o y => pinO_tup y.symm)]; exact z
/-- a call's change seen without the pins -/
theorem Un.unpin {fs : List Addr} (u : Un fs [] (over cs H) H' h h') (n : ∀ b o, cs b = some o → H b = none) (c : CsIn cs h') (c0 : CsIn cs h) : Un fs [] H (mask cs H') h h' where
  keep := fun b o e nb hb _ => by
    cases q : cs b with
    | some o' =>
      rw [c0 b o' q] at e
      cases e
      exact c b _ q
    | none => exact u.keep b o e (by rw [over_none q]; exact nb) hb (fun z => nomatch z)
  slot := fun b o e nb hb _ => by
    cases q : cs b with
    | some o' =>
      rw [c0 b o' q] at e
      cases e
      exact ⟨o.slots, c b _ q⟩
    | none => exact u.slot b o e (by rw [over_none q]; exact nb) hb (fun z => nomatch z)
  free := fun b o e nb _ => by
    cases q : cs b with
    | some o' => exact mask_some q
    | none =>
      rw [mask_none q]
      exact u.free b o e (by rw [over_none q]; exact nb) (fun z => nomatch z)
  there := u.there
  tups := fun b xs e => by
    have q : cs b = none := by
      cases q : cs b with
      | none => rfl
      | some o =>
        rw [n b o q] at e
        cases e
    rw [mask_none q]
    exact u.tups b xs (by rw [over_none q]; exact e)
  frzs := fun b o xs e => by
    have q : cs b = none := by
      cases q : cs b with
      | none => rfl
      | some o =>
        rw [n b o q] at e
        cases e
    rw [mask_none q]
    exact u.frzs b o xs (by rw [over_none q]; exact e)
  tbls := fun b ps e => by
    have q : cs b = none := by
      cases q : cs b with
      | none => rfl
      | some o =>
        rw [n b o q] at e
        cases e
    rw [mask_none q]
    exact u.tbls b ps (by rw [over_none q]; exact e)
/-- a body's change seen with the pins -/
theorem Un.repin {fs : List Addr} (u : Un fs [] (mask cs H) H' h h') (n : ∀ b o, cs b = some o → H b = some (pinO o b)) : Un fs [] H (over cs H') h h' := by
  have cn : ∀ b, H b = none → cs b = none := fun b e => by
    cases q : cs b with
    | none => rfl
    | some o =>
      rw [n b o q] at e
      cases e
  have ct : ∀ b u, H b = some u → (∀ o, u ≠ pinO o b) → cs b = none := fun b u e y => by
    cases q : cs b with
    | none => rfl
    | some o =>
      rw [n b o q] at e
      exact absurd (Option.some.inj e).symm (y o)
  refine ⟨fun b o e nb hb _ => u.keep b o e (mask_free nb) hb (fun z => nomatch z), fun b o e nb hb _ => u.slot b o e (mask_free nb) hb (fun z => nomatch z), fun b o e nb _ => ?_, u.there, fun b xs e => ?_, fun b o xs e => ?_, fun b ps e => ?_⟩
  · rw [over_none (cn b nb)]
    exact u.free b o e (mask_free nb) (fun z => nomatch z)
  · have q := ct b _ e fun o y => pinO_tup y.symm
    rw [over_none q]
    exact u.tups b xs (by rw [mask_none q]; exact e)
  · have q := ct b _ e fun o y => by unfold pinO at y; cases y
    rw [over_none q]
    exact u.frzs b o xs (by rw [mask_none q]; exact e)
  · have q := ct b _ e fun o y => by unfold pinO at y; cases y
    rw [over_none q]
    exact u.tbls b ps (by rw [mask_none q]; exact e)
end
/-! ### a lambda's body -/
/-- cs pins the cells of X's frame, in which stand what the slots say -/
structure CellsOk (X : Cx) (σ : L2.St) (cs : Addr → Option Obj) : Prop where
  vals : ∀ (i : Nat) (y : Str) (v : V), X.N[i]? = some y → σ[i]? = some (some v) → (X.env.kindOf y = some .cell ∨ X.env.kindOf y = some .free) → ∃ c u o, X.env.cells.lookup y = some c ∧ L2.RelV v u ∧ cs c = some o ∧ o.data = .cell (some u)
  all : ∀ y c, X.env.cells.lookup y = some c → ∃ o v, cs c = some o ∧ o.data = .cell v
  dom : ∀ b o, cs b = some o → ∃ x, X.env.cells.lookup x = some b
  len : σ.length = X.N.length
section
variable {X : Cx} {pins : List (Addr × Obj)} {σ : L2.St} {H : Hp} {s s1 : Shared} {cs : Addr → Option Obj}
theorem csOf_at {cells : List (Str × Addr)} {h : Heap} {b : Addr} {o : Obj} (e : csOf cells h b = some o) : (∃ x, cells.lookup x = some b) ∧ h.get? b = some o := by
  unfold csOf at e
  split at e
  · rename_i q
    exact ⟨q, e⟩
  · cases e
theorem csOf_in {cells : List (Str × Addr)} {h : Heap} {x : Str} {b : Addr} (e : cells.lookup x = some b) : csOf cells h b = h.get? b := by
  unfold csOf
  rw [if_pos ⟨x, e⟩]
theorem cells_ok (I : Inv X pins σ H s) : CellsOk X σ (csOf X.env.cells s.heap) ∧ CsIn (csOf X.env.cells s.heap) s.heap ∧ ∀ b o, csOf X.env.cells s.heap b = some o → H b = none := by
  refine ⟨⟨fun i y v e1 e2 hk => ?_, fun y c e => ?_, fun b o e => (csOf_at e).1, I.len⟩, fun b o e => (csOf_at e).2, fun b o e => ?_⟩
  · obtain ⟨m, hn, hl⟩ := I.loc
    have hvis : Vis X.env.scope y := hk.elim (fun k => .inr (.inl k)) (fun k => .inr (.inr k))
    obtain ⟨u, r, q⟩ := hl i y v e1 e2 hvis
    rcases q with ⟨k', _⟩ | ⟨_, c, e', o, ho, hd⟩
    · rcases hk with k | k <;> rw [k] at k' <;> cases k'
    · exact ⟨c, u, o, e', r, by rw [csOf_in e']; exact ho, hd⟩
  · obtain ⟨v, o, ho, hd⟩ := I.cell y c e
    exact ⟨o, v, by rw [csOf_in e]; exact ho, hd⟩
  · obtain ⟨⟨x, hx⟩, _⟩ := csOf_at e
    exact I.freeC x b hx
theorem lam_inv {A : Around} {outer : List Env} {E : XK} {scope : Scope} {f c' : Addr} {h₁ : Heap} {tk : Nat} {HZ : Hp} (inj : ∀ x y c, X.env.cells.lookup x = some c → X.env.cells.lookup y = some c → x = y)
    (has : ∀ x, (X.env.kindOf x = some .cell ∨ X.env.kindOf x = some .free) → ∃ c, X.env.cells.lookup x = some c) (L : LamS X.env.scope scope) (e0 : Env0 X.prog X.w X.K X.mg X.base A outer s1 HZ) (hd : A.handled = none)
    (CO : CellsOk X σ cs) (hcz : ∀ b o, cs b = some o → s1.heap.get? b = some o ∧ HZ b = none) (hns : h₁.Ns s1.heap.objs.size fun y => ([] : List (Str × Value)).reverse.lookup y) (kp : ∀ b o, s1.heap.get? b = some o → h₁.get? b = some o) :
    Inv (lamCx X A outer s1 HZ E scope f c') [] σ HZ { s1 with heap := h₁, toks := tk } := by
  have hfree : ∀ y ∈ scope.names, y.2 = .free → ∃ c, X.env.cells.lookup y.1 = some c := fun y hy e => (L.free y hy e).elim (fun k => has _ (.inl k)) (fun k => has _ (.inr k))
  have cm : ∀ {y c}, (cloFrom X.env.cells scope.names []).lookup y = some c → X.env.cells.lookup y = some c := fun {y c} e => by
    rcases cloFrom_mem (PySem.mem_of_lookup e) with hm | ⟨h1, h2⟩
    · cases hm
    · obtain ⟨c1, hc⟩ := hfree _ h1 rfl
      have hc : X.env.cells.lookup y = some c1 := hc
      have e2 : c = c1 := by
        rw [h2, hc] <;> rfl
      rw [e2]
      exact hc
  have look : ∀ {y}, scope.names.lookup y = some .free → ∃ c, (cloFrom X.env.cells scope.names []).lookup y = some c := fun {y} hl => by
    have hy : (y, NameKind.free) ∈ scope.names := PySem.mem_of_lookup hl
    exact mem_lookup (cloFrom_has (cells := X.env.cells) (acc := []) hy)
  have noA : ∀ b : Addr, b ∉ (lamCx X A outer s1 HZ E scope f c').ex := fun b z => absurd (show b ∈ ([] : List Addr) from z) (by simp)
  refine ⟨⟨e0.mod, L.kind, rfl, rfl, Nat.le_refl _, fun y z c e1 e2 => inj y z c (cm e1) (cm e2), fun y hy => ?_, fun y c z _ => ?_, fun _ => hd, Around.frames_deeper e0.frames, .inr ⟨rfl, rfl⟩, fun b z => absurd z (noA b), e0.bs, e0.bsz, fun b _ _ => noA b,
      fun b z => absurd z (noA b), e0.funs, e0.frf⟩,
    rfl, e0.bare, Un.kept kp, ⟨_, hns, fun i y v e1 e2 e3 => ?_⟩, fun y c e => ?_, e0.hok.fresh (Nat.le_refl _), fun y c e => ?_, fun q hq => absurd (show q ∈ ([] : List (Addr × Obj)) ++ [] from hq) (by simp), e0.hok.kept kp, CO.len⟩
  · have hy : scope.names.lookup y = some .cell ∨ scope.names.lookup y = some .free := hy
    rcases hy with hy | hy
    · exact absurd rfl (L.own _ (PySem.mem_of_lookup hy)).2
    · exact look hy
  · have z : false = true := z
    cases z
  · have e3 : Vis scope y := e3
    rcases e3 with k | k | k
    · exact absurd rfl (L.own _ (PySem.mem_of_lookup k)).1
    · exact absurd rfl (L.own _ (PySem.mem_of_lookup k)).2
    · have hk : X.env.kindOf y = some .cell ∨ X.env.kindOf y = some .free := L.free _ (PySem.mem_of_lookup k) rfl
      obtain ⟨c1, u, o, hc, r, ho, hd⟩ := CO.vals i y v e1 e2 hk
      obtain ⟨c2, h2⟩ := look k
      have c3 := cm h2
      rw [hc] at c3
      cases c3
      exact ⟨u, r, .inr ⟨.inr k, c1, h2, o, kp _ _ (hcz _ _ ho).1, hd⟩⟩
  · obtain ⟨o, v, ho, hd⟩ := CO.all y c (cm e)
    exact ⟨v, o, kp _ _ (hcz _ _ ho).1, hd⟩
  · obtain ⟨o, v, ho, _⟩ := CO.all y c (cm e)
    exact (hcz _ _ ho).2
/-- an exception's way out seen with the pins -/
theorem CX_repin {P : Program} {w : World} {outer : List Env} {H' : Hp} {E : XK} {e : Value} {s' : Shared} (hcs : ∀ b o, cs b = some o → H' b = some (pinO o b)) (hin : CsIn cs s.heap) (hfr : ∀ b ∈ frs outer, H' b = none)
    (c : L2.CX P w outer (mask cs H') s (fun cls d H2 => E cls d (over cs H2)) e s') : L2.CX P w outer H' s E e s' := by
  obtain ⟨a, B, H2, cls, d, rfl, fl, hok, ub, na, os, ag, hE⟩ := c
  have nfr : ∀ b o, cs b = some o → b ∉ frs outer := fun b o q hm => by
    have z := hfr b hm
    rw [hcs b o q] at z
    cases z
  have inB : CsIn cs B := fun b o q => ub.keep b o (hin b o q) (mask_some q) (nfr b o q)
  have n2 : ∀ b o, cs b = some o → H2 b = none := fun b o q => ub.free b o (hin b o q) (mask_some q)
  have cn : ∀ b, H' b = none → cs b = none := fun b e => by
    cases q : cs b with
    | none => rfl
    | some o =>
      rw [hcs b o q] at e
      cases e
  have ct : ∀ b u, H' b = some u → (∀ o, u ≠ pinO o b) → cs b = none := fun b u e y => by
    cases q : cs b with
    | none => rfl
    | some o =>
      rw [hcs b o q] at e
      exact absurd (Option.some.inj e).symm (y o)
  have ca : cs a = none := by
    cases q : cs a with
    | none => rfl
    | some o =>
      have z := inB a o q
      rw [fl.2.1] at z
      cases z
  refine ⟨a, B, over cs H2, cls, d, rfl, fl, HOk.over hok inB n2, ⟨fun b o e nb hb => ub.keep b o e (mask_free nb) hb, ub.slot, fun b o e nb => ?_, ub.there, fun b xs e => ?_, fun b o xs e => ?_, fun b ps e => ?_⟩, by rw [over_none ca]; exact na, os, ag, hE⟩
  · rw [over_none (cn b nb)]
    exact ub.free b o e (mask_free nb)
  · have q := ct b _ e fun o y => pinO_tup y.symm
    rw [over_none q]
    exact ub.tups b xs (by rw [mask_none q]; exact e)
  · have q := ct b _ e fun o y => by unfold pinO at y; cases y
    rw [over_none q]
    exact ub.frzs b o xs (by rw [mask_none q]; exact e)
  · have q := ct b _ e fun o y => by unfold pinO at y; cases y
    rw [over_none q]
    exact ub.tbls b ps (by rw [mask_none q]; exact e)
abbrev lamObj (X : Cx) (params : Arguments) (body : Expr) (scope : Scope) (pm : Value) (c' : Addr) (ctv : Value) : Obj := kla_obj "<lambda>" (X.env.qual ++ "<lambda>") params body scope (cloFrom X.env.cells scope.names []) pm c' ctv
/-- a made lambda is callable -/
theorem clo_of {f c' : Addr} {params : Arguments} {body : Expr} {scope : Scope} {pm ctv : Value} {k : Nat} {t : XK → TE} (ok : X.Ok) (CO : CellsOk X σ cs) (hcs : ∀ b o, cs b = some o → H b = some (pinO o b))
    (hf : H f = some (pinO (lamObj X params body scope pm c' ctv) f)) (hc : H c' = some (CodeO c' (X.env.qual ++ "<lambda>"))) (L : LamS X.env.scope scope)
    (hbind : bindArgs (PySem.W.kla_fn "<lambda>" (X.env.qual ++ "<lambda>") params body scope (cloFrom X.env.cells scope.names []) pm (.ref c') ctv) ⟨[], []⟩ = pure [])
    (hbody : ∀ (A : Around) (outer : List Env) (s : Shared) (H : Hp) (E : XK), Room k (A.deeper (lamEnv X scope s.heap.objs.size f c')) → PE (lamCx X A outer s H E scope f c') body (t E)) :
    CloOk X.prog X.w X.K X.mg X.base (k + 1) H f (fun E H' Q => t (fun cls d H2 => E cls d (over cs H2)) σ (mask cs H') fun v H2 => Q v (over cs H2)) := by
  refine ⟨⟨_, _, hf, rfl, rfl, rfl, rfl⟩, fun A outer s H' Q E hr e0 x ht => ?_⟩
  have of1 := pinO_at e0.hok (x _ _ hf)
  obtain ⟨⟨oc, vs, tk0, hoc, hdc, hvc⟩, _, _⟩ := e0.hok c' _ (x _ _ hc)
  have hcs' : ∀ b o, cs b = some o → H' b = some (pinO o b) := fun b o q => x _ _ (hcs b o q)
  have hin : CsIn cs s.heap := fun b o q => pinO_at e0.hok (hcs' b o q)
  have e1 : Env0 X.prog X.w X.K X.mg X.base A outer s (mask cs H') := ⟨e0.frames, e0.mod, fun b o e => ⟨(e0.bs b o e).1, mask_free (e0.bs b o e).2⟩, e0.bsz, e0.funs, fun b hb => mask_free (e0.frf b hb), HOk.mask e0.hok hcs', e0.bare⟩
  have lim : s.heap.NoLimit := e0.mod.nolimit.keeps fun b o e => (e0.bs b o e).1
  refine PySem.W.kla_callFunE hr.depth of1 rfl L.co L.gen rfl ⟨c', oc, vs, tk0, rfl, hoc, hdc, hvc⟩ ?_
  rw [hbind]
  refine wpAny_pure (wpAny_newFunctionEnv (fun y hy => (L.own y hy).2) (fun y hy => absurd hy (by simp)) (fun h₁ hns hsb => ⟨lim.fresh _ hsb, ?_⟩) L.kind)
  show codeAny _ _ (.expr body (lamEnv X scope s.heap.objs.size f c')) _ _
  have kp : ∀ b o, s.heap.get? b = some o → h₁.get? b = some o := fun b o e => hsb.extBut b o (Nat.ne_of_lt (Heap.lt_size e)) (Heap.get?_push_of_some _ e)
  have J : Inv (lamCx X A outer s (mask cs H') (fun cls d H2 => E cls d (over cs H2)) scope f c') [] σ (mask cs H') { s with heap := h₁, toks := s.toks + ([] : List (Str × Value)).length } :=
    lam_inv ok.inj ok.has L e1 hr.hd CO (fun b o q => ⟨hin b o q, mask_some q⟩) hns kp
  refine PySem.W.kla_codeExpr (wpAny_mono ((hbody _ _ s (mask cs H') (fun cls d H2 => E cls d (over cs H2)) (hr.deeper _)).run [] _ _ (mask cs H') _ J ht) (fun v s' hq => ?_) fun e s' hq => ?_)
  · obtain ⟨w', H2, J', rv, q⟩ := hq
    have nfr : ∀ b o, cs b = some o → b ∉ frs outer := fun b o q hm => by
      have z := e0.frf b hm
      rw [hcs' b o q] at z
      cases z
    have in2 : CsIn cs s'.heap := fun b o q => J'.base.keep b o (hin b o q) (mask_some q) (nfr b o q) (fun z => nomatch (show b ∈ ([] : List Addr) from z))
    have n2 : ∀ b o, cs b = some o → H2 b = none := fun b o q => J'.base.free b o (hin b o q) (mask_some q) (fun z => nomatch (show b ∈ ([] : List Addr) from z))
    exact ⟨w', over cs H2, J'.os, J'.bare, Un.repin J'.base hcs', HOk.over J'.hok in2 n2, rv, q⟩
  · exact wpAny_mono hq (fun _ s'' z => CX_repin hcs' hin e0.frf z) fun _ s'' z => CX_repin hcs' hin e0.frf z
end
/-! ### a lambda is made -/
section
variable {X : Cx} {pins : List (Addr × Obj)} {σ : L2.St} {H : Hp} {s : Shared}
theorem lam_make3 {T : List (Addr × Str)} {c P : Addr} {params : Arguments} {body : Expr} {scope : Scope} {pos : Pos} {E : Value → Shared → Prop} {Q : Value → Shared → Prop} (I : Inv X pins σ H s) (TB : TabB X.base X.mg c P) (hcode : X.env.code = .ref c)
    (hm : (P, X.env.qual ++ "<lambda>") ∈ T) (hu : ∀ p ∈ T, p.1 = P → p.2 = X.env.qual ++ "<lambda>") (hT : Tabs T H) (hdef : defaultsOf params X.env = ([], [])) (hfree : ∀ y ∈ scope.names, y.2 = .free → ∃ c, X.env.cells.lookup y.1 = some c)
    (h : ∀ (f c' : Addr) (pm ctv : Value) (H1 : Hp) (s' : Shared), Inv X pins σ (upd H1 f (pinO (lamObj X params body scope pm c' ctv) f)) s' → ExtN H H1 → Tabs T H1 → H1 f = none → H1 c' = some (CodeO c' (X.env.qual ++ "<lambda>")) → Q (.ref f) s') :
    wpAny (model X.prog X.w) X.A (eval (.Lambda params body scope pos) X.env) Q E s := by
  obtain ⟨ps, hP, ht, ha⟩ := hT _ hm
  refine PySem.W.kla_eval hdef ?_
  have bP : s.heap.BuiltinsAt X.mg P := TB.bm.keeps I.bk
  have hP' : s.heap.get? P = some { cls := .none, data := .fields ps } := I.hok P _ hP
  cases hc : codeAmong pos ps.toList with
  | none =>
    refine PySem.W.kla_makeFunction (mg := X.mg) (c := c) (P := P) (ps := ps) (closure_ok hfree) I.ok.glob (I.mod.glob.keeps I.bk) hcode (TB.code.keeps I.bk) hP' ht hc TB.gP bP fun c' ctv h' tk hx hge hlt hrec htb => ?_
    obtain ⟨c2, oc, vs, t, e2, hoc, hd, hv⟩ := hrec
    cases e2
    have nC : H c' = none := I.hok.fresh hge
    have I0 := inv_table (t' := tk) (more := #[rawInt pos.line, rawInt pos.col, .ref c']) (h' := h') I hP (fun b o hb e => hx b o hb e) htb hge ⟨oc, vs, t, hoc, hd, hv⟩
    have hE : ExtN H (upd (upd H P (.tbl (ps ++ #[rawInt pos.line, rawInt pos.col, .ref c']))) c' (CodeO c' (X.env.qual ++ "<lambda>"))) := fun b o e n => by
      rw [upd_ne (ne_of_none e nC), upd_ne (fun z => n ps (Option.some.inj (e.symm.trans (by rw [z]; exact hP))))]
      exact e
    have eL : (ps ++ #[rawInt pos.line, rawInt pos.col, .ref c']).toList = ps.toList ++ [rawInt pos.line, rawInt pos.col, .ref c'] := by simp
    have I1 := I0.laid (t' := tk) (a := h'.objs.size) (o := pinO (lamObj X params body scope ((X.mg "__name__").getD .none) c' ctv) h'.objs.size) (h' := h'.push (lamObj X params body scope ((X.mg "__name__").getD .none) c' ctv)) (fun b o e => Heap.get?_push_of_some _ e) (Nat.le_refl _) (pinO_ok (Heap.get?_push_size _ rfl))
    refine h h'.objs.size c' ((X.mg "__name__").getD .none) ctv _ _ I1 hE (fun p hp => ?_) (I0.hok.fresh (Nat.le_refl _)) upd_same
    by_cases hb : p.1 = P
    · rw [hu p hp hb, hb]
      refine ⟨_, by rw [upd_ne (ne_of_none hP nC), upd_same], by rw [eL]; exact PySem.TriplesOk_snoc _ _ _ _ ht, fun p' cv hcv => ?_⟩
      rw [eL] at hcv
      rcases among_app _ ht hcv with z | z
      · obtain ⟨c0, e1, e2⟩ := ha p' cv z
        exact ⟨c0, e1, hE _ _ e2 codeO_ne⟩
      · exact ⟨c', z, upd_same⟩
    · obtain ⟨ps', a1, a2, a3⟩ := hT p hp
      refine ⟨ps', by rw [upd_ne (ne_of_none a1 nC), upd_ne hb]; exact a1, a2, fun p' cv hcv => ?_⟩
      obtain ⟨c0, e1, e2⟩ := a3 p' cv hcv
      exact ⟨c0, e1, hE _ _ e2 codeO_ne⟩
  | some cv =>
    obtain ⟨c', e, hco⟩ := ha pos cv hc
    subst e
    refine PySem.W.kla_makeFunctionHit (mg := X.mg) (c := c) (P := P) (ps := ps) (closure_ok hfree) I.ok.glob (I.mod.glob.keeps I.bk) hcode (TB.code.keeps I.bk) hP' ht hc bP fun ctv h' tk hx hsz => ?_
    have I0 : Inv X pins σ H { s with heap := h', toks := tk } := I.kept fun b o e => hx b o e
    have I1 := I0.laid (t' := tk) (a := h'.objs.size) (o := pinO (lamObj X params body scope ((X.mg "__name__").getD .none) c' ctv) h'.objs.size) (h' := h'.push (lamObj X params body scope ((X.mg "__name__").getD .none) c' ctv)) (fun b o e => Heap.get?_push_of_some _ e) (Nat.le_refl _) (pinO_ok (Heap.get?_push_size _ rfl))
    exact h h'.objs.size c' ((X.mg "__name__").getD .none) ctv H _ I1 (ExtN.refl H) hT (I0.hok.fresh (Nat.le_refl _)) hco
end
section
variable {X : Cx}
/-- lambda: body, a callable value at a new place -/
def tLamE (X : Cx) (T : List (Addr × Str)) (params : Arguments) (body : Expr) (scope : Scope) : TE := fun _ H Q => Tabs T H ∧ ∀ (f c' : Addr) (pm ctv : Value) (H1 : Hp), ExtN H H1 → Tabs T H1 → H1 f = none → H1 c' = some (CodeO c' (X.env.qual ++ "<lambda>")) →
  Q (.ref f) (upd H1 f (pinO (lamObj X params body scope pm c' ctv) f))
theorem pe_lam {T : List (Addr × Str)} {c P : Addr} {params : Arguments} {body : Expr} {scope : Scope} {pos : Pos} (TB : TabB X.base X.mg c P) (hcode : X.env.code = .ref c) (hm : (P, X.env.qual ++ "<lambda>") ∈ T) (hu : ∀ p ∈ T, p.1 = P → p.2 = X.env.qual ++ "<lambda>")
    (hdef : defaultsOf params X.env = ([], [])) (L : LamS X.env.scope scope) : PE X (.Lambda params body scope pos) (tLamE X T params body scope) := by
  refine ⟨fun pins s σ H Q I h => ?_⟩
  obtain ⟨hT, h⟩ := h
  exact lam_make3 I TB hcode hm hu hT hdef (L.has I.ok) fun f c' pm ctv H1 s' J e T1 nf hco => ⟨.ref f, _, J, rfl, h f c' pm ctv H1 e T1 nf hco⟩
/-- f(..), where the cells of this frame are pinned while the callee runs: what is handed in may be callable values made here -/
def tCallC (X : Cx) (sp : Sp) (dvs : List V) (t : TA) : TE := fun σ H Q => t σ H fun vs H1 => ∀ cs : Addr → Option Obj, X.Ok → CellsOk X σ cs → (∀ b o, cs b = some o → H1 b = none) →
  sp (vs ++ dvs) (over cs H1) (fun v H2 => (∀ b o, cs b = some o → H2 b = some (pinO o b)) ∧ Q v (mask cs H2)) (fun _ _ _ => False)
variable {k : Nat} {f : Addr} {fd : FuncData} {ps : List Str} {sp : Sp} {dvs : List V} {ds : List Value} {x : Str} {p pos : Pos} {e : Expr} {es : List Expr} {t : TA}
theorem pe_callC (F : FnOk X.prog X.w X.K X.mg X.base CX0 k f fd ps sp) (hr : Room k X.A) (hg : Gl X x) (hm : X.mg x = some (.ref f)) (hk : PySem.W.keepIn X.K (.ref f) = true) (hb : L2.Binds X.K fd ps ds) (hd : Vals dvs ds)
    (hfn : ∀ y, X.fn y = true) (ha : PA X (e :: es) t) (hdb : (x == ("__debug__" : Str)) = false := by decide) (he : starEach (e :: es) X.env = (false, eval e X.env) :: starEach es X.env := by rfl) (hpl : (backTo pos (starEach es X.env)).any (·.1) = false := by rfl) :
    PE X (.Call (.Name x p) (e :: es) [] pos) (tCallC X sp dvs t) := by
  refine ⟨fun pins s σ H Q I h => ?_⟩
  refine wpAny_Call_Name_kw (ld_glob I hg hm ?_ hdb)
  refine PySem.W.callWith_K (h₀ := X.base) I.ok.mod.kin hk (thn (ha.run pos pins s σ H _ I h) fun us s1 ⟨vs, H1, I1, r, q⟩ => ⟨I1.kIn, ?_⟩) he hpl
  obtain ⟨CO, hin, n⟩ := cells_ok I1
  have hq := q _ I1.ok CO n
  have r2 : Vals (vs ++ dvs) (us ++ ds) := r.append hd
  have hl : (us ++ ds).length = ps.length := by rw [← r2.length]; exact F.len _ _ _ _ hq
  have e0 := I1.env0
  have e1 : Env0 X.prog X.w X.K X.mg X.base X.A X.stack s1 (over (csOf X.env.cells s1.heap) H1) := ⟨e0.frames, e0.mod, fun b o e => ⟨(e0.bs b o e).1, ?_⟩, e0.bsz, e0.funs, fun b hb => ?_, HOk.over e0.hok hin n, e0.bare⟩
  · refine wpAny_call (codeAny_mono (F.run X.A X.stack s1 _ ⟨us, []⟩ (us ++ ds) (vs ++ dvs) _ _ hr e1 (hb s1 us I1.kIn hl) r2 hq) fun r s' hr' => ?_)
    cases r with
    | error e => exact False.elim hr'
    | ok fl =>
      cases fl with
      | ret u =>
        obtain ⟨v, H2, os, bare, un, hok, rv, hp, q2⟩ := hr'
        have in2 : CsIn (csOf X.env.cells s1.heap) s'.heap := fun b o z => pinO_at hok (hp b o z)
        exact ⟨v, _, I1.call' os (Un.unpin un n in2 hin) (HOk.mask hok hp) bare (fun _ z => nomatch z), rv, q2⟩
      | next => exact False.elim hr'
      | brk => exact False.elim hr'
      | cont => exact False.elim hr'
  · -- nothing of the base is a cell of this frame
    cases z : csOf X.env.cells s1.heap b with
    | none =>
      rw [over_none z]
      exact (e0.bs b o e).2
    | some o' =>
      exfalso
      obtain ⟨⟨y, hy⟩, _⟩ := csOf_at z
      have h1 := I1.ok.cab y b (hfn y) hy
      exact absurd (Nat.lt_of_lt_of_le (Heap.lt_size e) (Nat.le_trans I1.ok.bsz h1)) (Nat.lt_irrefl _)
  · cases z : csOf X.env.cells s1.heap b with
    | none =>
      rw [over_none z]
      exact e0.frf b hb
    | some o' =>
      exfalso
      obtain ⟨⟨y, hy⟩, _⟩ := csOf_at z
      rcases List.mem_cons.mp (I1.stkSub b hb) with q | q
      · exact I1.cne y b hy q
      · obtain ⟨_, o, ho, _⟩ := I1.ok.funs.mem q
        exact absurd (Nat.lt_of_lt_of_le (Heap.lt_size ho) (I1.ok.cab y b (hfn y) hy)) (Nat.lt_irrefl _)
end
end ClX

/-! A layer of data over the hand layer: what a body makes is told as data (PyData), the heap stays inside. G is the part of the heap that never changes any more; a list that a def still changes is its own. -/
namespace DL
open PySem PySem.Spec PyProof.Rows L2
open Evl (Ex)
mutual
inductive Dd (G : Hp) : V → PyData → Prop
  | non : Dd G .non .none
  | bl (b : Bool) : Dd G (.bl b) (.bool b)
  | int (i : Int) : Dd G (.int i) (.int i)
  | str (x : Str) : Dd G (.str x) (.str x)
  | lst {a : Addr} {xs : List V} {ds : List PyData} : G a = some (.lst xs) → DdAll G xs ds → Dd G (.ref a) (.list ds)
  | tup {a : Addr} {xs : List V} {ds : List PyData} : G a = some (.tup xs) → DdAll G xs ds → Dd G (.ref a) (.tuple ds)
  | dct {a : Addr} : G a = some (.dK []) → Dd G (.ref a) (.dict [])
inductive DdAll (G : Hp) : List V → List PyData → Prop
  | nil : DdAll G [] []
  | cons {v : V} {vs : List V} {d : PyData} {ds : List PyData} : Dd G v d → DdAll G vs ds → DdAll G (v :: vs) (d :: ds)
end
mutual
theorem Dd.mono {G G' : Hp} (e : Ex G G') : ∀ {v : V} {d : PyData}, Dd G v d → Dd G' v d
  | _, _, .non => .non
  | _, _, .bl b => .bl b
  | _, _, .int i => .int i
  | _, _, .str x => .str x
  | _, _, .lst h a => .lst (e _ _ h) (DdAll.mono e a)
  | _, _, .tup h a => .tup (e _ _ h) (DdAll.mono e a)
  | _, _, .dct h => .dct (e _ _ h)
theorem DdAll.mono {G G' : Hp} (e : Ex G G') : ∀ {vs : List V} {ds : List PyData}, DdAll G vs ds → DdAll G' vs ds
  | _, _, .nil => .nil
  | _, _, .cons h t => .cons (h.mono e) (DdAll.mono e t)
end
theorem DdAll.length {G : Hp} : ∀ {vs : List V} {ds : List PyData}, DdAll G vs ds → vs.length = ds.length
  | _, _, .nil => rfl
  | _, _, .cons _ t => congrArg Nat.succ (DdAll.length t)
theorem DdAll.get {G : Hp} : ∀ {vs : List V} {ds : List PyData} {i : Nat} {v : V}, DdAll G vs ds → vs[i]? = some v → ∃ d, ds[i]? = some d ∧ Dd G v d
  | _, _, _, _, .nil, h => by simp at h
  | _, _, 0, _, .cons h _, e => by
    simp at e
    subst e
    exact ⟨_, rfl, h⟩
  | _, _, i + 1, _, .cons _ t, e => by
    obtain ⟨d, h1, h2⟩ := DdAll.get (i := i) t (by simpa using e)
    exact ⟨d, by simpa using h1, h2⟩
theorem DdAll.getd {G : Hp} : ∀ {vs : List V} {ds : List PyData} {i : Nat} {d : PyData}, DdAll G vs ds → ds[i]? = some d → ∃ v, vs[i]? = some v ∧ Dd G v d
  | _, _, _, _, .nil, h => by simp at h
  | _, _, 0, _, .cons h _, e => by
    simp at e
    subst e
    exact ⟨_, rfl, h⟩
  | _, _, i + 1, _, .cons _ t, e => by
    obtain ⟨d, h1, h2⟩ := DdAll.getd (i := i) t (by simpa using e)
    exact ⟨d, by simpa using h1, h2⟩
theorem DdAll.append {G : Hp} : ∀ {xs ys : List V} {ds es : List PyData}, DdAll G xs ds → DdAll G ys es → DdAll G (xs ++ ys) (ds ++ es)
  | _, _, _, _, .nil, s => s
  | _, _, _, _, .cons h t, s => .cons h (DdAll.append t s)
theorem DdAll.take {G : Hp} : ∀ {vs : List V} {ds : List PyData} (n : Nat), DdAll G vs ds → DdAll G (vs.take n) (ds.take n)
  | _, _, 0, _ => .nil
  | _, _, _ + 1, .nil => .nil
  | _, _, n + 1, .cons h t => .cons h (DdAll.take n t)
theorem DdAll.drop {G : Hp} : ∀ {vs : List V} {ds : List PyData} (n : Nat), DdAll G vs ds → DdAll G (vs.drop n) (ds.drop n)
  | _, _, 0, h => h
  | _, _, _ + 1, .nil => .nil
  | _, _, n + 1, .cons _ t => DdAll.drop n t
theorem DdAll.set {G : Hp} {v : V} {d : PyData} (h : Dd G v d) : ∀ {vs : List V} {ds : List PyData} (n : Nat), DdAll G vs ds → DdAll G (vs.set n v) (ds.set n d)
  | _, _, _, .nil => .nil
  | _, _, 0, .cons _ t => .cons h t
  | _, _, n + 1, .cons q t => .cons q (DdAll.set h n t)
theorem DdAll.reverse {G : Hp} : ∀ {vs : List V} {ds : List PyData}, DdAll G vs ds → DdAll G vs.reverse ds.reverse
  | _, _, .nil => .nil
  | _, _, .cons h t => by
    rw [List.reverse_cons, List.reverse_cons]
    exact (DdAll.reverse t).append (.cons h .nil)
theorem DdAll.ints {G : Hp} : ∀ {vs : List V} {ns : List Int}, DdAll G vs (ns.map .int) → vs = ns.map V.int
  | _, [], .nil => rfl
  | _, _ :: _, .cons h t => by
    cases h
    rw [DdAll.ints t]
    rfl
theorem DdAll.of_ints {G : Hp} : ∀ (ns : List Int), DdAll G (ns.map V.int) (ns.map .int)
  | [] => .nil
  | n :: ns => .cons (.int n) (DdAll.of_ints ns)
theorem DdAll.bools {G : Hp} : ∀ {vs : List V} {ns : List Bool}, DdAll G vs (ns.map .bool) → vs = ns.map V.bl
  | _, [], .nil => rfl
  | _, _ :: _, .cons h t => by
    cases h
    rw [DdAll.bools t]
    rfl
theorem DdAll.strs {G : Hp} : ∀ {vs : List V} {ns : List Str}, DdAll G vs (ns.map .str) → vs = ns.map V.str
  | _, [], .nil => rfl
  | _, _ :: _, .cons h t => by
    cases h
    rw [DdAll.strs t]
    rfl
theorem DdAll.of_strs {G : Hp} : ∀ (ns : List Str), DdAll G (ns.map V.str) (ns.map .str)
  | [] => .nil
  | n :: ns => .cons (.str n) (DdAll.of_strs ns)
theorem Dd.int' {G : Hp} {v : V} {i : Int} (h : Dd G v (.int i)) : v = .int i := by cases h; rfl
theorem Dd.bl' {G : Hp} {v : V} {b : Bool} (h : Dd G v (.bool b)) : v = .bl b := by cases h; rfl
theorem Dd.str' {G : Hp} {v : V} {x : Str} (h : Dd G v (.str x)) : v = .str x := by cases h; rfl
theorem Dd.non' {G : Hp} {v : V} (h : Dd G v .none) : v = .non := by cases h; rfl
theorem Dd.lst' {G : Hp} {v : V} {ds : List PyData} (h : Dd G v (.list ds)) : ∃ a xs, v = .ref a ∧ G a = some (.lst xs) ∧ DdAll G xs ds := by cases h with | lst h t => exact ⟨_, _, rfl, h, t⟩
theorem Dd.tup' {G : Hp} {v : V} {ds : List PyData} (h : Dd G v (.tuple ds)) : ∃ a xs, v = .ref a ∧ G a = some (.tup xs) ∧ DdAll G xs ds := by cases h with | tup h t => exact ⟨_, _, rfl, h, t⟩

/-! ### the state -/
/-- what a slot is known to hold: nothing, data, a list of this def's own, the generator, what is said of the heap at the entry -/
inductive Ent where
  | no | dat (d : PyData) | own (ds : List PyData) | gen (g : Int × Int × Int) | raw (φ : Option Addr → Hp → Option V → Prop)
abbrev Rho := List Ent
/-- the entry: the generator's place, the unchanging part and the heap as they were -/
structure Bs where
  gp : Option Addr
  G0 : Hp
  H0 : Hp
def genV (g : Int × Int × Int) : List V := [.int g.1, .int g.2.1, .int g.2.2]
def EntOk (B : Bs) (G H : Hp) : Ent → Option V → Prop
  | .no, _ => True
  | .dat d, s => ∃ v, s = some v ∧ Dd G v d
  | .own ds, s => ∃ a xs, s = some (.ref a) ∧ H a = some (.lst xs) ∧ G a = none ∧ B.H0 a = none ∧ DdAll G xs ds
  | .gen g, s => ∃ a, s = some (.ref a) ∧ B.gp = some a ∧ H a = some (.lst (genV g))
  | .raw φ, s => φ B.gp B.H0 s
structure Ok (B : Bs) (G H : Hp) (σ : L2.St) (ρ : Rho) : Prop where
  g0 : Ex B.G0 G
  gh : Ex G H
  nw : ∀ a o, G a = some o → B.G0 a = none → B.H0 a = none
  kp : ∀ a o, B.H0 a = some o → B.gp ≠ some a → H a = some o
  gm : ∀ a, B.gp = some a → G a = none ∧ (∃ o, H a = some o) ∧ ∃ o, B.H0 a = some o
  len : σ.length = ρ.length
  en : ∀ (i : Nat) (e : Ent) (s : Option V), ρ[i]? = some e → σ[i]? = some s → EntOk B G H e s
  ds : ∀ (i j : Nat) (di dj : List PyData) (a : Addr), ρ[i]? = some (.own di) → ρ[j]? = some (.own dj) → σ[i]? = some (some (.ref a)) → σ[j]? = some (some (.ref a)) → i = j
/-- no slot's own list stands at p -/
def NotOwn (σ : L2.St) (ρ : Rho) (p : Addr) : Prop := ∀ (i : Nat) (di : List PyData), ρ[i]? = some (.own di) → σ[i]? ≠ some (some (.ref p))

/-! ### the judgements -/
/-- what evaluating does: the generator may change, all else stays, more may be there -/
structure Stp (B : Bs) (σ : L2.St) (ρ : Rho) (G H G' H' : Hp) (ρ' : Rho) : Prop where
  ok : Ok B G' H' σ ρ'
  ex : Ex G G'
  fr : ∀ a o, H a = some o → B.gp ≠ some a → H' a = some o
  es : ∀ (j : Nat) (e : Ent), (∀ g, e ≠ .gen g) → (ρ[j]? = some e ↔ ρ'[j]? = some e)
  nw : ∀ a o, G' a = some o → G a = none → H a = none
theorem Stp.refl {B : Bs} {σ : L2.St} {ρ : Rho} {G H : Hp} (K : Ok B G H σ ρ) : Stp B σ ρ G H G H ρ := ⟨K, Ex.refl G, fun _ _ h _ => h, fun _ _ _ => Iff.rfl, fun a o h h' => by
  rw [h'] at h
  cases h⟩
theorem Stp.trans {B : Bs} {σ : L2.St} {ρ ρ1 ρ2 : Rho} {G H G1 H1 G2 H2 : Hp} (a : Stp B σ ρ G H G1 H1 ρ1) (b : Stp B σ ρ1 G1 H1 G2 H2 ρ2) : Stp B σ ρ G H G2 H2 ρ2 :=
  ⟨b.ok, a.ex.trans b.ex, fun c o h g => b.fr c o (a.fr c o h g) g, fun j e n => (a.es j e n).trans (b.es j e n), fun c o h h' => by
    cases q : G1 c with
    | some u => exact a.nw c u q h'
    | none =>
      have z := b.nw c o h q
      cases y : H c with
      | none => rfl
      | some u =>
        by_cases g : B.gp = some c
        · rw [(b.ok.gm c g).1] at h
          cases h
        · rw [a.fr c u y g] at z
          cases z⟩
theorem Stp.ow {B : Bs} {σ : L2.St} {ρ ρ1 : Rho} {G H G1 H1 : Hp} (a : Stp B σ ρ G H G1 H1 ρ1) {p : Addr} (h : NotOwn σ ρ p) : NotOwn σ ρ1 p := fun j dj e => h j dj ((a.es j _ (fun g z => by cases z)).mpr e)
def wE (te : TE) (ρ : Rho) (R : PyData → Rho → Prop) : Prop := ∀ B G H σ, Ok B G H σ ρ → ∀ Q : VK, (∀ v G' H' ρ' d, Stp B σ ρ G H G' H' ρ' → R d ρ' → Dd G' v d → Q v H') → te σ H Q
def wT (tt : TT) (ρ : Rho) (R : Bool → Rho → Prop) : Prop := ∀ B G H σ, Ok B G H σ ρ → ∀ Q : Bool → Hp → Prop, (∀ b G' H' ρ', Stp B σ ρ G H G' H' ρ' → R b ρ' → Q b H') → tt σ H Q
def wA (ta : TA) (ρ : Rho) (R : List PyData → Rho → Prop) : Prop := ∀ B G H σ, Ok B G H σ ρ → ∀ Q : List V → Hp → Prop, (∀ vs G' H' ρ' ds, Stp B σ ρ G H G' H' ρ' → R ds ρ' → DdAll G' vs ds → Q vs H') → ta σ H Q
/-- a new list that nothing knows as yet -/
def wO (te : TE) (ρ : Rho) (R : List PyData → Rho → Prop) : Prop := ∀ B G H σ, Ok B G H σ ρ → ∀ Q : VK, (∀ p xs G' H' ρ' ds, Stp B σ ρ G H G' H' ρ' → R ds ρ' → H' p = some (.lst xs) → G' p = none → H p = none → B.H0 p = none → NotOwn σ ρ' p → DdAll G' xs ds → Q (.ref p) H') → te σ H Q
structure Po where
  nx : Rho → Prop
  rt : PyData → Rho → Prop
  bk : Rho → Prop := fun _ => False
  ct : Rho → Prop := fun _ => False
structure Ends.For (B : Bs) (G : Hp) (P : Po) (D : L2.Ends) : Prop where
  nx : ∀ G' H' σ' ρ', Ok B G' H' σ' ρ' → Ex G G' → P.nx ρ' → D.nx σ' H'
  rt : ∀ v G' H' σ' ρ' d, Ok B G' H' σ' ρ' → Ex G G' → P.rt d ρ' → Dd G' v d → D.rt v H'
  bk : ∀ G' H' σ' ρ', Ok B G' H' σ' ρ' → Ex G G' → P.bk ρ' → D.bk σ' H'
  ct : ∀ G' H' σ' ρ', Ok B G' H' σ' ρ' → Ex G G' → P.ct ρ' → D.ct σ' H'
def wS (ts : TS) (ρ : Rho) (P : Po) : Prop := ∀ B G H σ, Ok B G H σ ρ → ∀ D : L2.Ends, Ends.For B G P D → ts D σ H

/-! ### changes of the state -/
section
variable {B : Bs} {G H : Hp} {σ : L2.St} {ρ : Rho}
theorem EntOk.mono {G' H' : Hp} {e : Ent} {s : Option V} (h : EntOk B G H e s) (eg : Ex G G') (eh : ∀ a xs, G a = none → H a = some (.lst xs) → H' a = some (.lst xs) ∧ G' a = none) (hgm : ∀ a, B.gp = some a → G a = none) : EntOk B G' H' e s := by
  cases e with
  | no => trivial
  | raw φ => exact h
  | dat d =>
    obtain ⟨v, h1, h2⟩ := h
    exact ⟨v, h1, h2.mono eg⟩
  | own ds =>
    obtain ⟨a, xs, h1, h2, h3, h4, h5⟩ := h
    obtain ⟨q1, q2⟩ := eh a xs h3 h2
    exact ⟨a, xs, h1, q1, q2, h4, h5.mono eg⟩
  | gen g =>
    obtain ⟨a, h1, h2, h3⟩ := h
    exact ⟨a, h1, h2, (eh a _ (hgm a h2) h3).1⟩
/-- what a free place may become -/
theorem Ok.free0 (K : Ok B G H σ ρ) {p : Addr} (h : H p = none) : G p = none ∧ B.H0 p = none ∧ B.gp ≠ some p ∧ NotOwn σ ρ p := by
  have hγ : B.gp ≠ some p := fun z => by
    obtain ⟨_, ⟨o, ho⟩, _⟩ := K.gm p z
    rw [h] at ho
    cases ho
  have hg : G p = none := by
    cases q : G p with
    | none => rfl
    | some o =>
      have z := K.gh p o q
      rw [h] at z
      cases z
  refine ⟨hg, ?_, hγ, fun i di e1 e2 => ?_⟩
  · cases q : B.H0 p with
    | none => rfl
    | some o =>
      have z := K.kp p o q hγ
      rw [h] at z
      cases z
  · obtain ⟨a, xs, z1, z2, _⟩ := K.en i _ _ e1 e2
    cases Option.some.inj z1
    rw [h] at z2
    cases z2
/-- a new object, not frozen -/
theorem Ok.laid (K : Ok B G H σ ρ) {p : Addr} {o : HO} (h : H p = none) : Ok B G (upd H p o) σ ρ := by
  obtain ⟨hg, h0, hγ, hn⟩ := K.free0 h
  have keep : ∀ a u, H a = some u → upd H p o a = some u := fun a u e => by
    rw [upd_ne (ne_of_none e h)]
    exact e
  exact ⟨K.g0, fun a u e => keep a u (K.gh a u e), K.nw, fun a u e q => keep a u (K.kp a u e q), fun a e => by
    obtain ⟨q1, ⟨u, q2⟩, q3⟩ := K.gm a e
    exact ⟨q1, ⟨u, keep a u q2⟩, q3⟩, K.len, fun i e s e1 e2 => (K.en i e s e1 e2).mono (Ex.refl G) (fun a xs q1 q2 => ⟨keep _ _ q2, q1⟩) fun a q => (K.gm a q).1, K.ds⟩
/-- a list that nothing knows, frozen -/
theorem Ok.freeze (K : Ok B G H σ ρ) {p : Addr} {o : HO} (hp : H p = some o) (hg : G p = none) (h0 : B.H0 p = none) (hn : NotOwn σ ρ p) : Ok B (upd G p o) H σ ρ ∧ Ex G (upd G p o) := by
  have eg : Ex G (upd G p o) := Ex.new hg
  have hγ : B.gp ≠ some p := fun z => by
    obtain ⟨_, _, ⟨u, q⟩⟩ := K.gm p z
    rw [h0] at q
    cases q
  refine ⟨⟨fun a u e => eg a u (K.g0 a u e), fun a u e => ?_, fun a u e q => ?_, K.kp, fun a e => ?_, K.len, fun i e s e1 e2 => ?_, K.ds⟩, eg⟩
  · by_cases z : a = p
    · rw [z, upd_same] at e
      rw [z, ← e]
      exact hp
    · rw [upd_ne z] at e
      exact K.gh a u e
  · by_cases z : a = p
    · rw [z]
      exact h0
    · rw [upd_ne z] at e
      exact K.nw a u e q
  · obtain ⟨q1, q2, q3⟩ := K.gm a e
    refine ⟨?_, q2, q3⟩
    rw [upd_ne (fun z => hγ (by rw [← z]; exact e))]
    exact q1
  · have k := K.en i e s e1 e2
    cases e with
    | no => trivial
    | raw φ => exact k
    | dat d =>
      obtain ⟨v, h1, h2⟩ := k
      exact ⟨v, h1, h2.mono eg⟩
    | own ds =>
      obtain ⟨a, xs, h1, h2, h3, h4, h5⟩ := k
      refine ⟨a, xs, h1, h2, ?_, h4, h5.mono eg⟩
      rw [upd_ne (fun z => hn i ds e1 (by rw [e2, h1, z]))]
      exact h3
    | gen g => exact k
/-- a new object, frozen at once -/
theorem Ok.laidF (K : Ok B G H σ ρ) {p : Addr} {o : HO} (h : H p = none) : Ok B (upd G p o) (upd H p o) σ ρ ∧ Ex G (upd G p o) := by
  obtain ⟨hg, h0, hγ, hn⟩ := K.free0 h
  exact (K.laid h).freeze upd_same hg h0 hn
theorem Stp.laid (K : Ok B G H σ ρ) {p : Addr} {o : HO} (h : H p = none) : Stp B σ ρ G H G (upd H p o) ρ := ⟨K.laid h, Ex.refl G, fun a u e _ => by
  rw [upd_ne (ne_of_none e h)]
  exact e, fun _ _ _ => Iff.rfl, fun a u e e' => by
  rw [e'] at e
  cases e⟩
theorem Stp.laidF (K : Ok B G H σ ρ) {p : Addr} {o : HO} (h : H p = none) : Stp B σ ρ G H (upd G p o) (upd H p o) ρ := ⟨(K.laidF h).1, (K.laidF h).2, fun a u e _ => by
  rw [upd_ne (ne_of_none e h)]
  exact e, fun _ _ _ => Iff.rfl, fun a u e e' => by
  by_cases z : a = p
  · rw [z]
    exact h
  · rw [upd_ne z, e'] at e
    cases e⟩
theorem Stp.freeze {G1 H1 : Hp} {ρ1 : Rho} (S : Stp B σ ρ G H G1 H1 ρ1) {p : Addr} {o : HO} (hp : H1 p = some o) (hg : G1 p = none) (hf : H p = none) (h0 : B.H0 p = none) (hn : NotOwn σ ρ1 p) : Stp B σ ρ G H (upd G1 p o) H1 ρ1 :=
  ⟨(S.ok.freeze hp hg h0 hn).1, S.ex.trans (S.ok.freeze hp hg h0 hn).2, S.fr, S.es, fun a u e e' => by
    by_cases z : a = p
    · rw [z]
      exact hf
    · rw [upd_ne z] at e
      exact S.nw a u e e'⟩
/-- a slot gets data -/
theorem Ok.setD (K : Ok B G H σ ρ) {i : Nat} {v : V} {d : PyData} (h : Dd G v d) : Ok B G H (σ.set i (some v)) (ρ.set i (.dat d)) := by
  refine ⟨K.g0, K.gh, K.nw, K.kp, K.gm, by rw [List.length_set, List.length_set]; exact K.len, fun j e s e1 e2 => ?_, fun j l dj dl a e1 e2 e3 e4 => ?_⟩
  · by_cases z : i = j
    · subst z
      have hj : i < ρ.length := by
        have := (List.getElem?_eq_some_iff.mp e1).1
        simpa using this
      rw [List.getElem?_set_self hj] at e1
      cases e1
      have hs : i < σ.length := by rw [K.len]; exact hj
      rw [List.getElem?_set_self hs] at e2
      cases e2
      exact ⟨v, rfl, h⟩
    · rw [List.getElem?_set_ne z] at e1 e2
      exact K.en j e s e1 e2
  · have nj : ∀ (m : Nat) (dm : List PyData), (ρ.set i (.dat d))[m]? = some (.own dm) → i ≠ m := fun m dm q z => by
      subst z
      have hj : i < ρ.length := by
        have := (List.getElem?_eq_some_iff.mp q).1
        simpa using this
      rw [List.getElem?_set_self hj] at q
      cases q
    have n1 := nj j dj e1
    have n2 := nj l dl e2
    rw [List.getElem?_set_ne n1] at e1 e3
    rw [List.getElem?_set_ne n2] at e2 e4
    exact K.ds j l dj dl a e1 e2 e3 e4
/-- a slot gets an own list -/
theorem Ok.setO (K : Ok B G H σ ρ) {i : Nat} {p : Addr} {xs : List V} {ds : List PyData} (hp : H p = some (.lst xs)) (hg : G p = none) (h0 : B.H0 p = none) (hn : NotOwn σ ρ p) (h : DdAll G xs ds) : Ok B G H (σ.set i (some (.ref p))) (ρ.set i (.own ds)) := by
  refine ⟨K.g0, K.gh, K.nw, K.kp, K.gm, by rw [List.length_set, List.length_set]; exact K.len, fun j e s e1 e2 => ?_, fun j l dj dl a e1 e2 e3 e4 => ?_⟩
  · by_cases z : i = j
    · subst z
      have hj : i < ρ.length := by
        have := (List.getElem?_eq_some_iff.mp e1).1
        simpa using this
      rw [List.getElem?_set_self hj] at e1
      cases e1
      have hs : i < σ.length := by rw [K.len]; exact hj
      rw [List.getElem?_set_self hs] at e2
      cases e2
      exact ⟨p, xs, rfl, hp, hg, h0, h⟩
    · rw [List.getElem?_set_ne z] at e1 e2
      exact K.en j e s e1 e2
  · have hs : ∀ (m : Nat) (dm : List PyData), (ρ.set i (.own ds))[m]? = some (.own dm) → m < ρ.length := fun m dm q => by
      have := (List.getElem?_eq_some_iff.mp q).1
      simpa using this
    have at_ : ∀ (m : Nat) (dm : List PyData), (ρ.set i (.own ds))[m]? = some (.own dm) → (σ.set i (some (.ref p)))[m]? = some (some (.ref a)) → (m = i ∧ a = p) ∨ (i ≠ m ∧ ρ[m]? = some (.own dm) ∧ σ[m]? = some (some (.ref a))) := fun m dm q1 q2 => by
      by_cases z : i = m
      · subst z
        rw [List.getElem?_set_self (by rw [K.len]; exact hs _ _ q1)] at q2
        cases q2
        exact .inl ⟨rfl, rfl⟩
      · rw [List.getElem?_set_ne z] at q1 q2
        exact .inr ⟨z, q1, q2⟩
    rcases at_ j dj e1 e3 with ⟨z1, z2⟩ | ⟨z1, z2, z3⟩
    · rcases at_ l dl e2 e4 with ⟨y1, y2⟩ | ⟨y1, y2, y3⟩
      · rw [z1, y1]
      · rw [z2] at y3
        exact absurd y3 (hn l dl y2)
    · rcases at_ l dl e2 e4 with ⟨y1, y2⟩ | ⟨y1, y2, y3⟩
      · rw [y2] at z3
        exact absurd z3 (hn j dj z2)
      · exact K.ds j l dj dl a z2 y2 z3 y3
end
end DL

/-! Rules of the data layer: operators by the kinds of their data, tests, displays, comprehensions, loops. -/
namespace DL
open PySem PySem.Spec PyProof.Rows L2
open Evl (Ex)
/-! ### operators that go by the kinds of what they get -/
theorem opOr {X : Cx} {f : Value → Value → Sem Value} {r r' : R2} (h : OpR X f r) (h' : OpR X f r') : OpR X f (fun x y H Q => r x y H Q ∨ r' x y H Q) := fun pins s σ H x y v u Q I rx ry q => q.elim (h pins s σ H x y v u Q I rx ry) (h' pins s σ H x y v u Q I rx ry)
theorem callOr {X : Cx} {f : Value} {r r' : List V → Hp → VK → Prop} (h : CallR X f r) (h' : CallR X f r') : CallR X f (fun xs H Q => r xs H Q ∨ r' xs H Q) := fun pins s σ H xs us Q I rx q => q.elim (h pins s σ H xs us Q I rx) (h' pins s σ H xs us Q I rx)
def rAddX (K : PySem.W.Frag) : R2 := fun x y H Q => rI0 (fun i j => .int (i + j)) x y H Q ∨ (∃ i j, x = .str i ∧ y = .str j ∧ i.length + j.length ≤ sizeLine ∧ Q (.str (i ++ j)) H) ∨ rCat x y H Q ∨ rCatA K x y H Q
theorem op_addX {X : Cx} : OpR X (binaryOp .Add) (rAddX X.K) := opOr op_add (opOr op_add_str (opOr op_cat op_catA))
def rMulX : R2 := fun x y H Q => rI CMulW (fun i j => .int (i * j)) x y H Q ∨ rRep x y H Q
theorem op_mulX {X : Cx} : OpR X (binaryOp .Mult) rMulX := opOr op_mulW op_rep
def rLtS (f : List Nat → List Nat → Bool) : R2 := fun x y H Q => ∃ i j : Str, x = .str i ∧ y = .str j ∧ Q (.bl (f i.cps.toList j.cps.toList)) H
def rLtX : R2 := fun x y H Q => rI0 (fun i j => .bl (decide (i < j))) x y H Q ∨ rLtS (fun a b => decide (a < b)) x y H Q
def rLeX : R2 := fun x y H Q => rI0 (fun i j => .bl (decide (i ≤ j))) x y H Q ∨ rLtS (fun a b => !decide (b < a)) x y H Q
def rGtX : R2 := fun x y H Q => rI0 (fun i j => .bl (decide (j < i))) x y H Q ∨ rLtS (fun a b => decide (b < a)) x y H Q
def rGeX : R2 := fun x y H Q => rI0 (fun i j => .bl (decide (j ≤ i))) x y H Q ∨ rLtS (fun a b => !decide (a < b)) x y H Q
theorem op_ltX {X : Cx} : OpR X (compareOp .Lt) rLtX := opOr op_lt op_lt_str
theorem op_leX {X : Cx} : OpR X (compareOp .LtE) rLeX := opOr op_le op_le_str
theorem op_gtX {X : Cx} : OpR X (compareOp .Gt) rGtX := opOr op_gt op_gt_str
theorem op_geX {X : Cx} : OpR X (compareOp .GtE) rGeX := opOr op_ge op_ge_str
/-! data read off the very heap -/
section
variable {X : Cx} {pins : List (Addr × Obj)} {σ : L2.St} {H G : Hp} {s : Shared}
mutual
theorem Dd.reads (I : Inv X pins σ H s) (e : Ex G H) : ∀ {d : PyData} {v : V} {u : Value}, d.hasDict = false → Dd G v d → RelV v u → ∃ as, Reads s.heap u d as
  | .none, _, _, _, h, r => by
    cases h
    cases r
    exact ⟨_, Reads.none⟩
  | .bool b, _, _, _, h, r => by
    cases h
    cases r
    exact ⟨_, Reads.bool b⟩
  | .int i, _, _, _, h, r => by
    cases h
    obtain ⟨t, rfl⟩ := r
    exact ⟨_, Reads.int i t⟩
  | .str x, _, _, _, h, r => by
    cases h
    obtain ⟨t, rfl⟩ := r
    exact ⟨_, Reads.str x t⟩
  | .list ds, _, _, n, h, r => by
    obtain ⟨a, xs, rfl, hg, ha⟩ := h.lst'
    cases r
    obtain ⟨_, its, k, rv, ho⟩ := (show ObjOk X.prog X.w H s.heap a (.lst xs) from I.hok a _ (e _ _ hg))
    obtain ⟨as, ra⟩ := Dd.readsAll I e (by simpa [PyData.hasDict] using n) ha rv
    exact ⟨_, Reads.list ho rfl rfl (by simpa using ra)⟩
  | .tuple ds, _, _, n, h, r => by
    obtain ⟨a, xs, rfl, hg, ha⟩ := h.tup'
    cases r
    obtain ⟨_, its, rv, o, ho, hc, k, hd⟩ := (show ObjOk X.prog X.w H s.heap a (.tup xs) from I.hok a _ (e _ _ hg))
    obtain ⟨as, ra⟩ := Dd.readsAll I e (by simpa [PyData.hasDict] using n) ha rv
    exact ⟨_, Reads.tuple ho hc hd (by simpa using ra)⟩
  | .dict kvs, _, _, n, _, _ => by simp [PyData.hasDict] at n
theorem Dd.readsAll (I : Inv X pins σ H s) (e : Ex G H) : ∀ {ds : List PyData} {vs : List V} {us : List Value}, PyData.hasDictAll ds = false → DdAll G vs ds → Vals vs us → ∃ as, ReadsAll s.heap us ds as
  | [], _, _, _, h, r => by
    cases h
    cases r
    exact ⟨_, ReadsAll.nil⟩
  | d :: ds, _, _, n, h, r => by
    cases h with
    | cons h1 h2 =>
      cases r with
      | cons r1 r2 =>
        simp only [PyData.hasDictAll, Bool.or_eq_false_iff] at n
        obtain ⟨as, q1⟩ := Dd.reads I e n.1 h1 r1
        obtain ⟨bs, q2⟩ := Dd.readsAll I e n.2 h2 r2
        exact ⟨_, ReadsAll.cons q1 q2⟩
end
mutual
theorem noDict_of_lay : ∀ {d : PyData}, d.canLay0 = true → d.hasDict = false
  | .none, _ => by simp [PyData.hasDict]
  | .bool _, _ => by simp [PyData.hasDict]
  | .int _, _ => by simp [PyData.hasDict]
  | .str _, _ => by simp [PyData.hasDict]
  | .list ds, h => by
    simp only [PyData.canLay0] at h
    simpa [PyData.hasDict] using noDict_of_layAll h
  | .tuple ds, h => by
    simp only [PyData.canLay0] at h
    simpa [PyData.hasDict] using noDict_of_layAll h
  | .dict _, h => by simp [PyData.canLay0] at h
theorem noDict_of_layAll : ∀ {ds : List PyData}, PyData.canLayAll0 ds = true → PyData.hasDictAll ds = false
  | [], _ => by simp [PyData.hasDictAll]
  | d :: ds, h => by
    simp only [PyData.canLayAll0, Bool.and_eq_true] at h
    simp [PyData.hasDictAll, noDict_of_lay h.1, noDict_of_layAll h.2]
end
end
def rEqX (neg : Bool) : R2 := fun x y H Q => ∃ G d e, Ex G H ∧ Dd G x d ∧ Dd G y e ∧ SeqAt.shaped d = true ∧ SeqAt.shaped e = true ∧ Q (.bl (if neg then !PyData.eqv d e else PyData.eqv d e)) H
theorem op_eqX {X : Cx} (hu : X.A.units + 64 < cLine) : OpR X (compareOp .Eq) (rEqX false) := by
  intro pins s σ H x y v u Q I rx ry h
  obtain ⟨G, d, e, ex, hd, he, sd, se, q⟩ := h
  obtain ⟨as, r1⟩ := Dd.reads I ex (noDict_of_lay (SeqAt.canLay_of_shaped sd)) hd rx
  obtain ⟨bs, r2⟩ := Dd.reads I ex (noDict_of_lay (SeqAt.canLay_of_shaped se)) he ry
  exact SeqAt.compareEq_shaped r1 r2 sd se hu ⟨.bl _, H, I, rfl, q⟩
theorem op_neX {X : Cx} (hu : X.A.units + 64 < cLine) : OpR X (compareOp .NotEq) (rEqX true) := by
  intro pins s σ H x y v u Q I rx ry h
  obtain ⟨G, d, e, ex, hd, he, sd, se, q⟩ := h
  obtain ⟨as, r1⟩ := Dd.reads I ex (noDict_of_lay (SeqAt.canLay_of_shaped sd)) hd rx
  obtain ⟨bs, r2⟩ := Dd.reads I ex (noDict_of_lay (SeqAt.canLay_of_shaped se)) he ry
  exact SeqAt.compareNe_shaped r1 r2 sd se hu ⟨.bl _, H, I, rfl, q⟩
/-- x in l, l a list of data -/
def rInX (neg : Bool) : R2 := fun x y H Q => ∃ G d ds, Ex G H ∧ Dd G x d ∧ Dd G y (.list ds) ∧ SeqAt.shaped d = true ∧ SeqAt.shaped (.list ds) = true ∧ Q (.bl (if neg then !ds.any fun z => PyData.eqv z d else ds.any fun z => PyData.eqv z d)) H
theorem op_inX {X : Cx} (hu : X.A.units + 65 < cLine) : OpR X (compareOp .In) (rInX false) := by
  intro pins s σ H x y v u Q I rx ry h
  obtain ⟨G, d, ds, ex, hd, he, sd, se, q⟩ := h
  obtain ⟨as, r1⟩ := Dd.reads I ex (noDict_of_lay (SeqAt.canLay_of_shaped sd)) hd rx
  obtain ⟨bs, r2⟩ := Dd.reads I ex (noDict_of_lay (SeqAt.canLay_of_shaped se)) he ry
  exact SeqAt.in_list_reads r2 r1 (SeqAt.canLay_of_shaped se) (SeqAt.canLay_of_shaped sd) (room_in_shaped sd hu) ⟨.bl _, H, I, rfl, q⟩
theorem op_notInX {X : Cx} (hu : X.A.units + 65 < cLine) : OpR X (compareOp .NotIn) (rInX true) := by
  intro pins s σ H x y v u Q I rx ry h
  obtain ⟨G, d, ds, ex, hd, he, sd, se, q⟩ := h
  obtain ⟨as, r1⟩ := Dd.reads I ex (noDict_of_lay (SeqAt.canLay_of_shaped sd)) hd rx
  obtain ⟨bs, r2⟩ := Dd.reads I ex (noDict_of_lay (SeqAt.canLay_of_shaped se)) he ry
  exact SeqAt.notIn_list_reads r2 r1 (SeqAt.canLay_of_shaped se) (SeqAt.canLay_of_shaped sd) (room_in_shaped sd hu) ⟨.bl _, H, I, rfl, q⟩
/-- repr(x) -/
def rRepr : List V → Hp → VK → Prop := fun xs H Q => ∃ G v d, xs = [v] ∧ Ex G H ∧ Dd G v d ∧ d.hasDict = false ∧ d.showable = true ∧ d.depth ≤ 60 ∧ d.shown.length ≤ sizeLine ∧ Q (.str d.shown) H
theorem call_repr {X : Cx} (hg : X.A.guards = some []) (hu : X.A.units + 64 < cLine) : CallR X (.builtin "repr") rRepr := by
  intro pins s σ H xs us Q I r h
  obtain ⟨G, v, d, rfl, ex, hd, hnd, hs, hdp, hz, q⟩ := h
  obtain ⟨u, rfl, ru⟩ := vals1 r
  cases hd with
  | non =>
    cases ru
    exact P.repr_of_none ⟨.str _, H, I.tok _, ⟨_, rfl⟩, by simpa [PyData.shown] using q⟩
  | bl b =>
    cases ru
    exact P.repr_of_bool ⟨.str _, H, I.tok _, ⟨_, rfl⟩, by simpa [PyData.shown] using q⟩
  | int i =>
    obtain ⟨t, rfl⟩ := ru
    exact P.repr_of_int (by simpa [PyData.showable] using hs) ⟨.str _, H, I.tok _, ⟨_, rfl⟩, by simpa [PyData.shown] using q⟩
  | str x =>
    obtain ⟨t, rfl⟩ := ru
    exact P.repr_of_str ⟨.str _, H, I.tok _, ⟨_, rfl⟩, by simpa [PyData.shown] using q⟩ (by simpa [PyData.shown] using hz)
  | lst h1 h2 =>
    obtain ⟨as, rd⟩ := Dd.reads I ex hnd (.lst h1 h2) ru
    cases ru
    exact repr_of_reads' rd hs (fun z => by rw [hnd] at z; cases z) hg (by omega) (fun _ _ e => e) (fun h' u tk k => ⟨.str _, H, I.kept (t' := tk) k, ⟨_, rfl⟩, q⟩) hz
  | tup h1 h2 =>
    obtain ⟨as, rd⟩ := Dd.reads I ex hnd (.tup h1 h2) ru
    cases ru
    exact repr_of_reads' rd hs (fun z => by rw [hnd] at z; cases z) hg (by omega) (fun _ _ e => e) (fun h' u tk k => ⟨.str _, H, I.kept (t' := tk) k, ⟨_, rfl⟩, q⟩) hz
  | dct h1 => simp [PyData.hasDict] at hnd
end DL

namespace DL
open PySem PySem.Spec PyProof.Rows L2
open Evl (Ex)
section
variable {ρ : Rho} {R : PyData → Rho → Prop} {RT : Bool → Rho → Prop} {te ta tb : TE} {t u : TT}
/-! ### expressions -/
theorem Ok.slot {B : Bs} {G H : Hp} {σ : L2.St} (K : Ok B G H σ ρ) {i : Nat} {e : Ent} (h : ρ[i]? = some e) : ∃ s, σ[i]? = some s ∧ EntOk B G H e s := by
  have hi : i < σ.length := by
    rw [K.len]
    exact (List.getElem?_eq_some_iff.mp h).1
  exact ⟨σ[i], List.getElem?_eq_getElem hi, K.en i e _ h (List.getElem?_eq_getElem hi)⟩
theorem w_var {i : Nat} {d : PyData} (h : ρ[i]? = some (.dat d)) (r : R d ρ) : wE (tVar i) ρ R := fun B G H σ K Q q => by
  obtain ⟨s, hs, v, e, hd⟩ := K.slot h
  exact ⟨v, by rw [hs, e], q v G H ρ d (Stp.refl K) r hd⟩
theorem w_c {v : V} {d : PyData} (h : ∀ G, Dd G v d) (r : R d ρ) : wE (tC v) ρ R := fun B G H σ K Q q => q v G H ρ d (Stp.refl K) r (h G)
theorem w_int {i : Int} (r : R (.int i) ρ) : wE (tC (.int i)) ρ R := w_c (fun _ => .int i) r
theorem w_bl {b : Bool} (r : R (.bool b) ρ) : wE (tC (.bl b)) ρ R := w_c (fun _ => .bl b) r
theorem w_str {x : Str} (r : R (.str x) ρ) : wE (tC (.str x)) ρ R := w_c (fun _ => .str x) r
theorem w_non (r : R .none ρ) : wE (tC .non) ρ R := w_c (fun _ => .non) r
theorem wE.imp {R' : PyData → Rho → Prop} (h : wE te ρ R) (i : ∀ d ρ', R d ρ' → R' d ρ') : wE te ρ R' := fun B G H σ K Q q => h B G H σ K Q fun v G' H' ρ' d S r => q v G' H' ρ' d S (i d ρ' r)
theorem wT.imp {R' : Bool → Rho → Prop} (h : wT t ρ RT) (i : ∀ b ρ', RT b ρ' → R' b ρ') : wT t ρ R' := fun B G H σ K Q q => h B G H σ K Q fun b G' H' ρ' S r => q b G' H' ρ' S (i b ρ' r)
/-- a two-place operation on data -/
def OpW (r : R2) (x y : PyData) (R : PyData → Prop) : Prop := ∀ B G H σ (ρ : Rho), Ok B G H σ ρ → ∀ vx vy, Dd G vx x → Dd G vy y → ∀ Q : VK, (∀ v G' H' d, Stp B σ ρ G H G' H' ρ → R d → Dd G' v d → Q v H') → r vx vy H Q
theorem w_op {r : R2} (h : wE ta ρ fun x ρ1 => wE tb ρ1 fun y ρ2 => OpW r x y fun z => R z ρ2) : wE (tOp r ta tb) ρ R := fun B G H σ K Q q =>
  h B G H σ K _ fun vx G1 H1 ρ1 x S1 r1 d1 => r1 B G1 H1 σ S1.ok _ fun vy G2 H2 ρ2 y S2 r2 d2 =>
    r2 B G2 H2 σ ρ2 S2.ok vx vy (d1.mono S2.ex) d2 Q fun v G3 H3 d S3 r3 d3 => q v G3 H3 ρ2 d ((S1.trans S2).trans S3) r3 d3
/-- its answer needs no heap -/
theorem OpW.flat {r : R2} {x y : PyData} {RR : PyData → Prop} {v : V} {d : PyData} (hd : ∀ G, Dd G v d) (hr : RR d) (h : ∀ B G H σ (ρ : Rho), Ok B G H σ ρ → ∀ vx vy, Dd G vx x → Dd G vy y → ∀ Q : VK, Q v H → r vx vy H Q) : OpW r x y RR :=
  fun B G H σ ρ K vx vy dx dy Q q => h B G H σ ρ K vx vy dx dy Q (q v G H d (Stp.refl K) hr (hd G))
theorem OpW.or1 {r r' : R2} {x y : PyData} {RR : PyData → Prop} (h : OpW r x y RR) : OpW (fun a b H Q => r a b H Q ∨ r' a b H Q) x y RR := fun B G H σ ρ K vx vy dx dy Q q => .inl (h B G H σ ρ K vx vy dx dy Q q)
theorem OpW.or2 {r r' : R2} {x y : PyData} {RR : PyData → Prop} (h : OpW r' x y RR) : OpW (fun a b H Q => r a b H Q ∨ r' a b H Q) x y RR := fun B G H σ ρ K vx vy dx dy Q q => .inr (h B G H σ ρ K vx vy dx dy Q q)
theorem o_I0 {g : Int → Int → V} {i j : Int} {RR : PyData → Prop} {d : PyData} (hd : ∀ G, Dd G (g i j) d) (hr : RR d) : OpW (rI0 g) (.int i) (.int j) RR :=
  OpW.flat hd hr fun B G H σ ρ K vx vy dx dy Q q => ⟨i, j, dx.int', dy.int', q⟩
theorem o_I {C : Int → Int → Prop} {g : Int → Int → V} {i j : Int} {RR : PyData → Prop} {d : PyData} (hd : ∀ G, Dd G (g i j) d) (hc : C i j) (hr : RR d) : OpW (rI C g) (.int i) (.int j) RR :=
  OpW.flat hd hr fun B G H σ ρ K vx vy dx dy Q q => ⟨i, j, dx.int', dy.int', hc, q⟩
section
variable {K : PySem.W.Frag} {RR : PyData → Prop} {i j : Int} {x y : Str}
theorem o_addI (h : RR (.int (i + j))) : OpW (rAddX K) (.int i) (.int j) RR := OpW.or1 (o_I0 (fun _ => .int _) h)
theorem o_subI (h : RR (.int (i - j))) : OpW (rI0 fun i j => .int (i - j)) (.int i) (.int j) RR := o_I0 (fun _ => .int _) h
theorem o_mulI (hc : CMulW i j) (h : RR (.int (i * j))) : OpW rMulX (.int i) (.int j) RR := OpW.or1 (o_I (fun _ => .int _) hc h)
theorem o_modI (hc : 0 < j) (h : RR (.int (i % j))) : OpW (rI (fun _ j => 0 < j) fun i j => .int (i % j)) (.int i) (.int j) RR := o_I (fun _ => .int _) hc h
theorem o_divI (hc : CDivW i j) (h : RR (.int (i / j))) : OpW (rI CDivW fun i j => .int (i / j)) (.int i) (.int j) RR := o_I (fun _ => .int _) hc h
theorem o_powI (hc : CPow i j) (h : RR (.int (i ^ j.toNat))) : OpW (rI CPow fun i j => .int (i ^ j.toNat)) (.int i) (.int j) RR := o_I (fun _ => .int _) hc h
theorem o_addS (hz : x.length + y.length ≤ sizeLine) (h : RR (.str (x ++ y))) : OpW (rAddX K) (.str x) (.str y) RR :=
  OpW.or2 (OpW.or1 (OpW.flat (fun _ => .str _) h fun B G H σ ρ K vx vy dx dy Q q => ⟨x, y, dx.str', dy.str', hz, q⟩))
theorem o_addL {xs ys : List PyData} (hz : xs.length + ys.length ≤ sizeLine) (h : RR (.list (xs ++ ys))) : OpW (rAddX K) (.list xs) (.list ys) RR := OpW.or2 (OpW.or2 (OpW.or1 fun B G H σ ρ K vx vy dx dy Q q => by
  obtain ⟨a, us, rfl, ga, da⟩ := dx.lst'
  obtain ⟨b, ws, rfl, gb, db⟩ := dy.lst'
  refine ⟨a, b, us, ws, rfl, rfl, K.gh _ _ ga, K.gh _ _ gb, by rw [da.length, db.length]; exact hz, fun p hp => ?_⟩
  have S := Stp.laidF K (o := .lst (us ++ ws)) hp
  exact q _ _ _ _ S h (.lst upd_same ((da.mono S.ex).append (db.mono S.ex)))))
theorem o_addT {xs ys : List PyData} (hz : xs.length + ys.length ≤ sizeLine) (h : RR (.tuple (xs ++ ys))) : OpW (rAddX K) (.tuple xs) (.tuple ys) RR := OpW.or2 (OpW.or2 (OpW.or2 fun B G H σ ρ K vx vy dx dy Q q => by
  obtain ⟨a, us, rfl, ga, da⟩ := dx.tup'
  obtain ⟨b, ws, rfl, gb, db⟩ := dy.tup'
  refine ⟨a, b, us, ws, rfl, rfl, .inl (.inl (K.gh _ _ ga)), .inl (.inl (K.gh _ _ gb)), by rw [da.length, db.length]; exact hz, fun z => ?_, fun _ z => ?_, fun _ _ p hp => ?_⟩
  · subst z
    cases da
    exact q _ _ _ _ (Stp.refl K) h (.tup gb db)
  · subst z
    cases db
    rw [List.append_nil] at h
    exact q _ _ _ _ (Stp.refl K) h (.tup ga da)
  · have S := Stp.laidF K (o := .tup (us ++ ws)) hp
    exact q _ _ _ _ S h (.tup upd_same ((da.mono S.ex).append (db.mono S.ex)))))
theorem DdAll.rep {G : Hp} {us : List V} {xs : List PyData} (h : DdAll G us xs) : ∀ n : Nat, DdAll G (List.replicate n us).flatten (List.replicate n xs).flatten
  | 0 => .nil
  | n + 1 => by
    rw [List.replicate_succ, List.replicate_succ, List.flatten_cons, List.flatten_cons]
    exact h.append (DdAll.rep h n)
theorem o_repL {xs : List PyData} (h0 : -(2 ^ 63) ≤ j) (h1 : j < 2 ^ 63) (hz : xs.length * j.toNat ≤ sizeLine) (h : RR (.list (List.replicate j.toNat xs).flatten)) : OpW rMulX (.list xs) (.int j) RR := OpW.or2 fun B G H σ ρ K vx vy dx dy Q q => by
  obtain ⟨a, us, rfl, ga, da⟩ := dx.lst'
  rw [dy.int']
  refine ⟨a, j, us, rfl, rfl, K.gh _ _ ga, h0, h1, by rw [da.length]; exact hz, fun p hp => ?_⟩
  have S := Stp.laidF K (o := .lst (List.replicate j.toNat us).flatten) hp
  exact q _ _ _ _ S h (.lst upd_same ((da.mono S.ex).rep _))
/-! comparisons -/
theorem o_ltI (h : RR (.bool (decide (i < j)))) : OpW rLtX (.int i) (.int j) RR := OpW.or1 (o_I0 (fun _ => .bl _) h)
theorem o_leI (h : RR (.bool (decide (i ≤ j)))) : OpW rLeX (.int i) (.int j) RR := OpW.or1 (o_I0 (fun _ => .bl _) h)
theorem o_gtI (h : RR (.bool (decide (j < i)))) : OpW rGtX (.int i) (.int j) RR := OpW.or1 (o_I0 (fun _ => .bl _) h)
theorem o_geI (h : RR (.bool (decide (j ≤ i)))) : OpW rGeX (.int i) (.int j) RR := OpW.or1 (o_I0 (fun _ => .bl _) h)
theorem o_S {f : List Nat → List Nat → Bool} (h : RR (.bool (f x.cps.toList y.cps.toList))) : OpW (rLtS f) (.str x) (.str y) RR := OpW.flat (fun _ => .bl _) h fun B G H σ ρ K vx vy dx dy Q q => ⟨x, y, dx.str', dy.str', q⟩
theorem o_ltS (h : RR (.bool (decide (x.cps.toList < y.cps.toList)))) : OpW rLtX (.str x) (.str y) RR := OpW.or2 (o_S h)
theorem o_leS (h : RR (.bool (!decide (y.cps.toList < x.cps.toList)))) : OpW rLeX (.str x) (.str y) RR := OpW.or2 (o_S h)
theorem o_gtS (h : RR (.bool (decide (y.cps.toList < x.cps.toList)))) : OpW rGtX (.str x) (.str y) RR := OpW.or2 (o_S h)
theorem o_geS (h : RR (.bool (!decide (x.cps.toList < y.cps.toList)))) : OpW rGeX (.str x) (.str y) RR := OpW.or2 (o_S h)
theorem o_eq {d e : PyData} (sd : SeqAt.shaped d = true) (se : SeqAt.shaped e = true) (h : RR (.bool (PyData.eqv d e))) : OpW (rEqX false) d e RR := OpW.flat (fun _ => .bl _) h fun B G H σ ρ K vx vy dx dy Q q => ⟨G, d, e, K.gh, dx, dy, sd, se, q⟩
theorem o_ne {d e : PyData} (sd : SeqAt.shaped d = true) (se : SeqAt.shaped e = true) (h : RR (.bool (!PyData.eqv d e))) : OpW (rEqX true) d e RR := OpW.flat (fun _ => .bl _) h fun B G H σ ρ K vx vy dx dy Q q => ⟨G, d, e, K.gh, dx, dy, sd, se, q⟩
theorem o_in {d : PyData} {es : List PyData} (sd : SeqAt.shaped d = true) (se : SeqAt.shaped (.list es) = true) (h : RR (.bool (es.any fun z => PyData.eqv z d))) : OpW (rInX false) d (.list es) RR := OpW.flat (fun _ => .bl _) h fun B G H σ ρ K vx vy dx dy Q q => ⟨G, d, es, K.gh, dx, dy, sd, se, q⟩
theorem o_notIn {d : PyData} {es : List PyData} (sd : SeqAt.shaped d = true) (se : SeqAt.shaped (.list es) = true) (h : RR (.bool (!es.any fun z => PyData.eqv z d))) : OpW (rInX true) d (.list es) RR := OpW.flat (fun _ => .bl _) h fun B G H σ ρ K vx vy dx dy Q q => ⟨G, d, es, K.gh, dx, dy, sd, se, q⟩
def isNone : PyData → Bool
  | .none => true
  | _ => false
theorem isNone_V {G : Hp} {v : V} {d : PyData} (h : Dd G v d) : decide (v = .non) = isNone d := by cases h <;> rfl
theorem o_isN {d : PyData} (h : RR (.bool (isNone d))) : OpW (fun x y H Q => y = .non ∧ Q (.bl (decide (x = .non))) H) d .none RR := OpW.flat (fun _ => .bl _) h fun B G H σ ρ K vx vy dx dy Q q => ⟨dy.non', by rw [isNone_V dx]; exact q⟩
theorem o_notN {d : PyData} (h : RR (.bool (!isNone d))) : OpW (fun x y H Q => y = .non ∧ Q (.bl (!decide (x = .non))) H) d .none RR := OpW.flat (fun _ => .bl _) h fun B G H σ ρ K vx vy dx dy Q q => ⟨dy.non', by rw [isNone_V dx]; exact q⟩
theorem o_isB {a b : Bool} (h : RR (.bool (decide (a = b)))) : OpW rIsB (.bool a) (.bool b) RR := OpW.flat (fun _ => .bl _) h fun B G H σ ρ K vx vy dx dy Q q => ⟨a, b, dx.bl', dy.bl', q⟩
/-! items -/
theorem o_ixL {xs : List PyData} {d : PyData} (ha : atI xs i = some d) (h : RR d) : OpW (rIx K) (.list xs) (.int i) RR := fun B G H σ ρ K vx vy dx dy Q q => by
  obtain ⟨a, us, rfl, ga, da⟩ := dx.lst'
  rw [dy.int']
  unfold atI at ha
  cases hn : ixN xs.length i with
  | none =>
    rw [hn] at ha
    cases ha
  | some j =>
    rw [hn] at ha
    obtain ⟨v, h1, h2⟩ := da.getd (show xs[j]? = some d from ha)
    refine .inl ⟨a, us, i, v, rfl, rfl, .inl (.inl (K.gh _ _ ga)), ?_, q _ _ _ _ (Stp.refl K) h h2⟩
    unfold atI
    rw [da.length, hn]
    exact h1
theorem o_ixT {xs : List PyData} {d : PyData} (ha : atI xs i = some d) (h : RR d) : OpW (rIx K) (.tuple xs) (.int i) RR := fun B G H σ ρ K vx vy dx dy Q q => by
  obtain ⟨a, us, rfl, ga, da⟩ := dx.tup'
  rw [dy.int']
  unfold atI at ha
  cases hn : ixN xs.length i with
  | none =>
    rw [hn] at ha
    cases ha
  | some j =>
    rw [hn] at ha
    obtain ⟨v, h1, h2⟩ := da.getd (show xs[j]? = some d from ha)
    refine .inr (.inl ⟨a, us, i, v, rfl, rfl, .inl (.inl (K.gh _ _ ga)), ?_, q _ _ _ _ (Stp.refl K) h h2⟩)
    unfold atI
    rw [da.length, hn]
    exact h1
theorem o_ixS {c : Nat} (hz : x.length ≤ sizeLine) (ha : atI x.cps.toList i = some c) (h : RR (.str ⟨#[c]⟩)) : OpW (rIx K) (.str x) (.int i) RR := OpW.flat (fun _ => .str _) h fun B G H σ ρ K vx vy dx dy Q q => .inr (.inr ⟨x, i, c, dx.str', dy.int', hz, ha, q⟩)
end
theorem w_un {r : V → Hp → VK → Prop} {RR : PyData → Rho → Prop} (h : wE ta ρ fun x ρ1 => ∀ B G H σ, Ok B G H σ ρ1 → ∀ vx, Dd G vx x → ∀ Q : VK, (∀ v d, (∀ G, Dd G v d) → RR d ρ1 → Q v H) → r vx H Q) : wE (tUn r ta) ρ RR := fun B G H σ K Q q =>
  h B G H σ K _ fun vx G1 H1 ρ1 x S1 r1 d1 => r1 B G1 H1 σ S1.ok vx d1 Q fun v d hd hr => q v G1 H1 ρ1 d S1 hr (hd G1)
theorem w_neg {RR : PyData → Rho → Prop} (h : wE ta ρ fun x ρ1 => ∃ i, x = .int i ∧ RR (.int (-i)) ρ1) : wE (tUn (rU fun i => .int (-i)) ta) ρ RR := w_un (h.imp fun d ρ1 ⟨i, e, r⟩ B G H σ K vx dx Q q => by
  subst e
  exact ⟨i, dx.int', q _ _ (fun _ => .int _) r⟩)
/-! ### tests and truth -/
theorem w_test (h : wE te ρ fun d ρ1 => ∃ b, d = .bool b ∧ RT b ρ1) : wT (tTest te) ρ RT := fun B G H σ K Q q => h B G H σ K _ fun v G1 H1 ρ1 d S1 ⟨b, eb, r⟩ d1 => by
  subst eb
  exact ⟨b, d1.bl', q b G1 H1 ρ1 S1 r⟩
theorem w_tB (h : wE te ρ fun d ρ1 => ∃ b, d = .bool b ∧ RT b ρ1) : wT (tB te) ρ RT := fun B G H σ K Q q => h B G H σ K _ fun v G1 H1 ρ1 d S1 ⟨b, eb, r⟩ d1 => by
  subst eb
  exact ⟨b, d1.bl', q b G1 H1 ρ1 S1 r⟩
theorem w_and (h : wT t ρ fun b ρ1 => if b = true then wT u ρ1 RT else RT false ρ1) : wT (tAnd t u) ρ RT := fun B G H σ K Q q => h B G H σ K _ fun b G1 H1 ρ1 S1 r => by
  cases b with
  | true =>
    rw [if_pos rfl] at r ⊢
    exact r B G1 H1 σ S1.ok Q fun b G2 H2 ρ2 S2 r2 => q b G2 H2 ρ2 (S1.trans S2) r2
  | false =>
    rw [if_neg Bool.false_ne_true] at r ⊢
    exact q false G1 H1 ρ1 S1 r
theorem w_or (h : wT t ρ fun b ρ1 => if b = true then RT true ρ1 else wT u ρ1 RT) : wT (tOr t u) ρ RT := fun B G H σ K Q q => h B G H σ K _ fun b G1 H1 ρ1 S1 r => by
  cases b with
  | true =>
    rw [if_pos rfl] at r ⊢
    exact q true G1 H1 ρ1 S1 r
  | false =>
    rw [if_neg Bool.false_ne_true] at r ⊢
    exact r B G1 H1 σ S1.ok Q fun b G2 H2 ρ2 S2 r2 => q b G2 H2 ρ2 (S1.trans S2) r2
theorem w_not (h : wT t ρ fun b ρ1 => RT (!b) ρ1) : wT (tNot t) ρ RT := fun B G H σ K Q q => h B G H σ K _ fun b G1 H1 ρ1 S1 r => q _ G1 H1 ρ1 S1 r
theorem w_andV (h : wE ta ρ fun d ρ1 => ∃ b, d = .bool b ∧ if b = true then wE tb ρ1 R else R (.bool false) ρ1) : wE (tAndV ta tb) ρ R := fun B G H σ K Q q => h B G H σ K _ fun v G1 H1 ρ1 d S1 ⟨b, eb, r⟩ d1 => by
  subst eb
  refine ⟨b, d1.bl', ?_⟩
  cases b with
  | true =>
    rw [if_pos rfl] at r ⊢
    exact r B G1 H1 σ S1.ok Q fun v G2 H2 ρ2 d S2 r2 => q v G2 H2 ρ2 d (S1.trans S2) r2
  | false =>
    rw [if_neg Bool.false_ne_true] at r ⊢
    exact q _ G1 H1 ρ1 _ S1 r (.bl _)
theorem w_orV (h : wE ta ρ fun d ρ1 => ∃ b, d = .bool b ∧ if b = true then R (.bool true) ρ1 else wE tb ρ1 R) : wE (tOrV ta tb) ρ R := fun B G H σ K Q q => h B G H σ K _ fun v G1 H1 ρ1 d S1 ⟨b, eb, r⟩ d1 => by
  subst eb
  refine ⟨b, d1.bl', ?_⟩
  cases b with
  | true =>
    rw [if_pos rfl] at r ⊢
    exact q _ G1 H1 ρ1 _ S1 r (.bl _)
  | false =>
    rw [if_neg Bool.false_ne_true] at r ⊢
    exact r B G1 H1 σ S1.ok Q fun v G2 H2 ρ2 d S2 r2 => q v G2 H2 ρ2 d (S1.trans S2) r2
theorem w_notV (h : wE ta ρ fun d ρ1 => ∃ b, d = .bool b ∧ R (.bool (!b)) ρ1) : wE (tNotV ta) ρ R := fun B G H σ K Q q => h B G H σ K _ fun v G1 H1 ρ1 d S1 ⟨b, eb, r⟩ d1 => by
  subst eb
  exact ⟨b, d1.bl', q _ G1 H1 ρ1 _ S1 r (.bl _)⟩
theorem w_if (h : wT t ρ fun b ρ1 => if b = true then wE ta ρ1 R else wE tb ρ1 R) : wE (tIf t ta tb) ρ R := fun B G H σ K Q q => h B G H σ K _ fun b G1 H1 ρ1 S1 r => by
  cases b with
  | true =>
    rw [if_pos rfl] at r ⊢
    exact r B G1 H1 σ S1.ok Q fun v G2 H2 ρ2 d S2 r2 => q v G2 H2 ρ2 d (S1.trans S2) r2
  | false =>
    rw [if_neg Bool.false_ne_true] at r ⊢
    exact r B G1 H1 σ S1.ok Q fun v G2 H2 ρ2 d S2 r2 => q v G2 H2 ρ2 d (S1.trans S2) r2
theorem w_chain {r r' : R2} {tc : TE} (h : wE ta ρ fun x ρ1 => wE tb ρ1 fun y ρ2 => OpW r x y fun z => ∃ b, z = .bool b ∧ if b = true then wE tc ρ2 (fun w ρ3 => OpW r' y w fun z' => R z' ρ3) else R (.bool false) ρ2)
    (hd : tChain r r' ta tb tc = fun σ H Q => ta σ H fun x H1 => tb σ H1 fun y H2 => r x y H2 fun z H3 => ∃ k, z = .bl k ∧ if k = true then tc σ H3 (fun w H4 => r' y w H4 Q) else Q (.bl false) H3 := by rfl) : wE (tChain r r' ta tb tc) ρ R := fun B G H σ K Q q => by
  rw [hd]
  refine h B G H σ K _ fun vx G1 H1 ρ1 x S1 r1 d1 => r1 B G1 H1 σ S1.ok _ fun vy G2 H2 ρ2 y S2 r2 d2 => r2 B G2 H2 σ ρ2 S2.ok vx vy (d1.mono S2.ex) d2 _ fun v G3 H3 d S3 ⟨b, eb, r3⟩ d3 => ?_
  subst eb
  refine ⟨b, d3.bl', ?_⟩
  cases b with
  | true =>
    rw [if_pos rfl] at r3 ⊢
    exact r3 B G3 H3 σ S3.ok _ fun vw G4 H4 ρ4 w S4 r4 d4 => r4 B G4 H4 σ ρ4 S4.ok vy vw ((d2.mono S3.ex).mono S4.ex) d4 Q fun v G5 H5 d S5 r5 d5 => q v G5 H5 ρ4 d ((((S1.trans S2).trans S3).trans S4).trans S5) r5 d5
  | false =>
    rw [if_neg Bool.false_ne_true] at r3 ⊢
    exact q _ G3 H3 ρ2 _ ((S1.trans S2).trans S3) r3 (.bl _)
/-! ### arguments, displays -/
variable {ts : TA} {RA : List PyData → Rho → Prop}
theorem w_nil (r : RA [] ρ) : wA tNil ρ RA := fun B G H σ K Q q => q [] G H ρ [] (Stp.refl K) r .nil
theorem w_cons (h : wE ta ρ fun d ρ1 => wA ts ρ1 fun ds ρ2 => RA (d :: ds) ρ2) : wA (tCons ta ts) ρ RA := fun B G H σ K Q q => h B G H σ K _ fun v G1 H1 ρ1 d S1 r1 d1 => r1 B G1 H1 σ S1.ok _ fun vs G2 H2 ρ2 ds S2 r2 d2 =>
  q (v :: vs) G2 H2 ρ2 (d :: ds) (S1.trans S2) r2 (.cons (d1.mono S2.ex) d2)
theorem w_tup (h : wA ts ρ fun ds ρ1 => ds.length ≤ sizeLine ∧ R (.tuple ds) ρ1) : wE (tTup ts) ρ R := fun B G H σ K Q q => h B G H σ K _ fun vs G1 H1 ρ1 ds S1 ⟨hz, r⟩ d1 => ⟨by rw [d1.length]; exact hz, fun p hp => by
  have S2 := Stp.laidF S1.ok (o := .tup vs) hp
  exact q _ _ _ ρ1 _ (S1.trans S2) r (.tup upd_same (d1.mono S2.ex))⟩
/-- a new list is data, too -/
theorem wO.fr {RO : List PyData → Rho → Prop} (h : wO te ρ RO) (i : ∀ ds ρ', RO ds ρ' → R (.list ds) ρ') : wE te ρ R := fun B G H σ K Q q => h B G H σ K _ fun p xs G1 H1 ρ1 ds S1 r hp hg hf h0 hn d1 => by
  have S2 := S1.freeze hp hg hf h0 hn
  have e2 := (S1.ok.freeze hp hg h0 hn).2
  exact q _ _ _ ρ1 _ S2 (i _ _ r) (.lst upd_same (d1.mono e2))
theorem wO_of_new {te : TE} {RO : List PyData → Rho → Prop} (h : ∀ B G H σ, Ok B G H σ ρ → ∀ Q : VK, (∀ xs G' H' ρ' ds, Stp B σ ρ G H G' H' ρ' → RO ds ρ' → DdAll G' xs ds → ∀ p, H' p = none → Q (.ref p) (upd H' p (.lst xs))) → te σ H Q) : wO te ρ RO := fun B G H σ K Q q =>
  h B G H σ K Q fun xs G' H' ρ' ds S r d p hp => by
    obtain ⟨f1, f2, f3, f4⟩ := S.ok.free0 hp
    refine q p xs G' _ ρ' ds (S.trans (Stp.laid S.ok hp)) r upd_same f1 ?_ f2 f4 d
    cases y : H p with
    | none => rfl
    | some u =>
      rw [S.fr p u y f3] at hp
      cases hp
theorem wO_lst {RO : List PyData → Rho → Prop} (h : wA ts ρ fun ds ρ1 => ds.length ≤ sizeLine ∧ RO ds ρ1) : wO (tLst ts) ρ RO := wO_of_new fun B G H σ K Q q => h B G H σ K _ fun vs G1 H1 ρ1 ds S1 ⟨hz, r⟩ d1 => ⟨by rw [d1.length]; exact hz, q vs G1 H1 ρ1 ds S1 r d1⟩
theorem w_lst (h : wA ts ρ fun ds ρ1 => ds.length ≤ sizeLine ∧ R (.list ds) ρ1) : wE (tLst ts) ρ R := (wO_lst (RO := fun ds ρ1 => R (.list ds) ρ1) h).fr fun _ _ r => r
theorem wO_rep {RO : List PyData → Rho → Prop} (h : wE ta ρ fun x ρ1 => wE tb ρ1 fun y ρ2 => ∃ xs j, x = .list xs ∧ y = .int j ∧ -(2 ^ 63) ≤ j ∧ j < 2 ^ 63 ∧ xs.length * j.toNat ≤ sizeLine ∧ RO (List.replicate j.toNat xs).flatten ρ2) : wO (tOp rMulX ta tb) ρ RO := wO_of_new fun B G H σ K Q q =>
  h B G H σ K _ fun vx G1 H1 ρ1 x S1 r1 d1 => r1 B G1 H1 σ S1.ok _ fun vy G2 H2 ρ2 y S2 ⟨xs, j, ex, ey, h0, h1, hz, r⟩ d2 => by
    subst ex
    subst ey
    obtain ⟨a, us, rfl, ga, da⟩ := (d1.mono S2.ex).lst'
    rw [d2.int']
    exact .inr ⟨a, j, us, rfl, rfl, S2.ok.gh _ _ ga, h0, h1, by rw [da.length]; exact hz, q _ G2 H2 ρ2 _ (S1.trans S2) r (da.rep _)⟩
/-! ### calls by values -/
def CallW (r : List V → Hp → VK → Prop) (ds : List PyData) (R : PyData → Prop) : Prop := ∀ B G H σ (ρ : Rho), Ok B G H σ ρ → ∀ vs, DdAll G vs ds → ∀ Q : VK, (∀ v G' H' d, Stp B σ ρ G H G' H' ρ → R d → Dd G' v d → Q v H') → r vs H Q
theorem CallW.flat {r : List V → Hp → VK → Prop} {ds : List PyData} {RR : PyData → Prop} {v : V} {d : PyData} (hd : ∀ G, Dd G v d) (hr : RR d) (h : ∀ B G H σ (ρ : Rho), Ok B G H σ ρ → ∀ vs, DdAll G vs ds → ∀ Q : VK, Q v H → r vs H Q) : CallW r ds RR :=
  fun B G H σ ρ K vs dv Q q => h B G H σ ρ K vs dv Q (q v G H d (Stp.refl K) hr (hd G))
theorem CallW.or1 {r r' : List V → Hp → VK → Prop} {ds : List PyData} {RR : PyData → Prop} (h : CallW r ds RR) : CallW (fun a H Q => r a H Q ∨ r' a H Q) ds RR := fun B G H σ ρ K vs dv Q q => .inl (h B G H σ ρ K vs dv Q q)
theorem CallW.or2 {r r' : List V → Hp → VK → Prop} {ds : List PyData} {RR : PyData → Prop} (h : CallW r' ds RR) : CallW (fun a H Q => r a H Q ∨ r' a H Q) ds RR := fun B G H σ ρ K vs dv Q q => .inr (h B G H σ ρ K vs dv Q q)
theorem w_callB {r : List V → Hp → VK → Prop} (h : wA ts ρ fun ds ρ1 => CallW r ds fun d => R d ρ1) : wE (tCB r ts) ρ R := fun B G H σ K Q q => h B G H σ K _ fun vs G1 H1 ρ1 ds S1 r1 d1 => r1 B G1 H1 σ ρ1 S1.ok vs d1 Q fun v G2 H2 d S2 r2 d2 => q v G2 H2 ρ1 d (S1.trans S2) r2 d2
theorem DdAll.one {G : Hp} {vs : List V} {d : PyData} (h : DdAll G vs [d]) : ∃ v, vs = [v] ∧ Dd G v d := by
  cases h with
  | cons h t =>
    cases t
    exact ⟨_, rfl, h⟩
theorem DdAll.two {G : Hp} {vs : List V} {d e : PyData} (h : DdAll G vs [d, e]) : ∃ v w, vs = [v, w] ∧ Dd G v d ∧ Dd G w e := by
  cases h with
  | cons h t =>
    obtain ⟨w, rfl, hw⟩ := t.one
    exact ⟨_, _, rfl, h, hw⟩
end
end DL

namespace DL
open PySem PySem.Spec PyProof.Rows L2
open Evl (Ex)
/-! ### promises over data -/
def New (G G' H : Hp) : Prop := ∀ a o, G' a = some o → G a = none → H a = none
section
variable {B : Bs} {G H G' H' : Hp} {σ : L2.St} {ρ : Rho}
theorem Stp.step (K : Ok B G H σ ρ) (eh : Ex H H') (eg : Ex G G') (egh : Ex G' H') (n : New G G' H) : Stp B σ ρ G H G' H' ρ := by
  have h0 : ∀ a, H a = none → B.H0 a = none := fun a h => (K.free0 h).2.1
  have gn : ∀ a o, G a = none → H a = some o → G' a = none := fun a o h1 h2 => by
    cases q : G' a with
    | none => rfl
    | some u =>
      have z := n a u q h1
      rw [h2] at z
      cases z
  refine ⟨⟨fun a o e => eg a o (K.g0 a o e), egh, fun a o e q => ?_, fun a o e q => eh a o (K.kp a o e q), fun a e => ?_, K.len, fun i e s e1 e2 => ?_, K.ds⟩, eg, fun a o e _ => eh a o e, fun _ _ _ => Iff.rfl, n⟩
  · cases z : G a with
    | some u => exact K.nw a u z q
    | none => exact h0 a (n a o e z)
  · obtain ⟨q1, ⟨o, q2⟩, q3⟩ := K.gm a e
    exact ⟨gn a o q1 q2, ⟨o, eh a o q2⟩, q3⟩
  · exact (K.en i e s e1 e2).mono eg (fun a xs q1 q2 => ⟨eh a _ q2, gn a _ q1 q2⟩) fun a q => (K.gm a q).1
/-- the same with the generator changed, its entry with it -/
theorem Stp.stepG {γ : Addr} {g g' : Int × Int × Int} {i : Nat} (K : Ok B G H σ ρ) (hi : ρ[i]? = some (.gen g)) (hγ : B.gp = some γ) (eh : ∀ a o, H a = some o → a ≠ γ → H' a = some o) (hg : H' γ = some (.lst (genV g'))) (gg : G' γ = none)
    (one : ∀ (j : Nat) (gj : Int × Int × Int), ρ[j]? = some (.gen gj) → j = i) (eg : Ex G G') (egh : Ex G' H') (n : New G G' H) : Stp B σ ρ G H G' H' (ρ.set i (.gen g')) := by
  have h0 : ∀ a, H a = none → B.H0 a = none := fun a h => (K.free0 h).2.1
  have gn : ∀ a o, G a = none → H a = some o → G' a = none := fun a o h1 h2 => by
    cases q : G' a with
    | none => rfl
    | some u =>
      have z := n a u q h1
      rw [h2] at z
      cases z
  have il : i < ρ.length := (List.getElem?_eq_some_iff.mp hi).1
  have noOwn : ∀ (j : Nat) (dj : List PyData), (ρ.set i (.gen g'))[j]? = some (.own dj) → ρ[j]? = some (.own dj) := fun j dj e => by
    by_cases z : i = j
    · subst z
      rw [List.getElem?_set_self il] at e
      cases e
    · rw [List.getElem?_set_ne z] at e
      exact e
  refine ⟨⟨fun a o e => eg a o (K.g0 a o e), egh, fun a o e q => ?_, fun a o e q => eh a o (K.kp a o e q) (fun z => q (by rw [z]; exact hγ)), fun a e => ?_, by rw [List.length_set]; exact K.len, fun j e s e1 e2 => ?_, fun j l dj dl a e1 e2 e3 e4 => K.ds j l dj dl a (noOwn j dj e1) (noOwn l dl e2) e3 e4⟩, eg,
    fun a o e q => eh a o e (fun z => q (by rw [z]; exact hγ)), fun j e ne => ?_, n⟩
  · cases z : G a with
    | some u => exact K.nw a u z q
    | none => exact h0 a (n a o e z)
  · rw [hγ] at e
    cases e
    exact ⟨gg, ⟨_, hg⟩, (K.gm γ hγ).2.2⟩
  · by_cases z : i = j
    · subst z
      rw [List.getElem?_set_self il] at e1
      cases e1
      obtain ⟨a, q1, q2, q3⟩ := K.en i _ s hi e2
      rw [hγ] at q2
      cases q2
      exact ⟨γ, q1, hγ, hg⟩
    · rw [List.getElem?_set_ne z] at e1
      have k := K.en j e s e1 e2
      cases e with
      | no => trivial
      | raw φ => exact k
      | dat d =>
        obtain ⟨v, h1, h2⟩ := k
        exact ⟨v, h1, h2.mono eg⟩
      | own ds =>
        obtain ⟨a, xs, h1, h2, h3, h4, h5⟩ := k
        have na : a ≠ γ := fun y => by
          obtain ⟨_, _, ⟨o, q⟩⟩ := K.gm γ hγ
          rw [y] at h4
          rw [h4] at q
          cases q
        exact ⟨a, xs, h1, eh a _ h2 na, gn a _ h3 h2, h4, h5.mono eg⟩
      | gen gj => exact absurd (one j gj e1) (fun y => z y.symm)
  · by_cases z : i = j
    · subst z
      rw [List.getElem?_set_self il, hi]
      exact ⟨fun y => absurd (Option.some.inj y).symm (ne g), fun y => absurd (Option.some.inj y).symm (ne g')⟩
    · rw [List.getElem?_set_ne z]
end
def spD (n : Nat) (Pre : List PyData → Prop) (Post : List PyData → PyData → Prop) : Sp := fun vs H Q _ => ∃ (G : Hp) (ds : List PyData), Ex G H ∧ DdAll G vs ds ∧ ds.length = n ∧ Pre ds ∧ ∀ v G' H' d, Ex H H' → Ex G G' → Ex G' H' → New G G' H → Post ds d → Dd G' v d → Q v H'
/-- the generator first -/
def spG (n : Nat) (Pre : Int × Int × Int → List PyData → Prop) (Post : Int × Int × Int → List PyData → PyData → Int × Int × Int → Prop) : Sp := fun vs H Q _ => ∃ (γ : Addr) (us : List V) (G : Hp) (g : Int × Int × Int) (ds : List PyData), vs = .ref γ :: us ∧ Ex G H ∧ G γ = none ∧ H γ = some (.lst (genV g)) ∧ DdAll G us ds ∧ ds.length = n ∧ Pre g ds ∧
  ∀ v G' H' d g', (∀ a o, H a = some o → a ≠ γ → H' a = some o) → H' γ = some (.lst (genV g')) → G' γ = none → Ex G G' → Ex G' H' → New G G' H → Post g ds d g' → Dd G' v d → Q v H'
theorem spD_len {n : Nat} {Pre : List PyData → Prop} {Post : List PyData → PyData → Prop} {ps : List Str} (hp : ps.length = n) : ∀ vs H Q E, spD n Pre Post vs H Q E → vs.length = ps.length := fun vs H Q E ⟨G, ds, _, h, l, _⟩ => by rw [h.length, l, hp]
theorem spG_len {n : Nat} {Pre : Int × Int × Int → List PyData → Prop} {Post : Int × Int × Int → List PyData → PyData → Int × Int × Int → Prop} {ps : List Str} (hp : ps.length = n + 1) : ∀ vs H Q E, spG n Pre Post vs H Q E → vs.length = ps.length := fun vs H Q E ⟨γ, us, G, g, ds, e, _, _, _, h, l, _⟩ => by rw [e, List.length_cons, h.length, l, hp]
section
variable {ρ : Rho} {R : PyData → Rho → Prop} {ts : TA} {n : Nat}
theorem w_call {Pre : List PyData → Prop} {Post : List PyData → PyData → Prop} {E : XK} (h : wA ts ρ fun ds ρ1 => ds.length = n ∧ Pre ds ∧ ∀ d, Post ds d → R d ρ1) : wE (tCall (spD n Pre Post) [] E ts) ρ R := fun B G H σ K Q q => h B G H σ K _ fun vs G1 H1 ρ1 ds S1 ⟨l, p, r⟩ d1 => by
  show spD n Pre Post (vs ++ []) H1 Q E
  rw [List.append_nil]
  exact ⟨G1, ds, S1.ok.gh, d1, l, p, fun v G2 H2 d a1 a2 a3 a4 hp hd => q v G2 H2 ρ1 d (S1.trans (Stp.step S1.ok a1 a2 a3 a4)) (r d hp) hd⟩
/-- with a default behind -/
theorem w_callD {Pre : List PyData → Prop} {Post : List PyData → PyData → Prop} {E : XK} {dvs : List V} {dds : List PyData} (hd : ∀ G, DdAll G dvs dds) (h : wA ts ρ fun ds ρ1 => (ds ++ dds).length = n ∧ Pre (ds ++ dds) ∧ ∀ d, Post (ds ++ dds) d → R d ρ1) : wE (tCall (spD n Pre Post) dvs E ts) ρ R := fun B G H σ K Q q => h B G H σ K _ fun vs G1 H1 ρ1 ds S1 ⟨l, p, r⟩ d1 =>
  ⟨G1, ds ++ dds, S1.ok.gh, d1.append (hd G1), l, p, fun v G2 H2 d a1 a2 a3 a4 hp hd => q v G2 H2 ρ1 d (S1.trans (Stp.step S1.ok a1 a2 a3 a4)) (r d hp) hd⟩
theorem w_callG {Pre : Int × Int × Int → List PyData → Prop} {Post : Int × Int × Int → List PyData → PyData → Int × Int × Int → Prop} {E : XK} {i : Nat} {g0 : Int × Int × Int} (h0 : ρ[i]? = some (.gen g0))
    (h : wA ts ρ fun ds ρ1 => ∃ g, ρ1[i]? = some (.gen g) ∧ (∀ (j : Nat) (gj : Int × Int × Int), ρ1[j]? = some (.gen gj) → j = i) ∧ ds.length = n ∧ Pre g ds ∧ ∀ d g', Post g ds d g' → R d (ρ1.set i (.gen g'))) : wE (tCall (spG n Pre Post) [] E (tCons (tVar i) ts)) ρ R := fun B G H σ K Q q => by
  obtain ⟨s, hs, γ, es, hγ, hg⟩ := K.slot h0
  refine ⟨.ref γ, by rw [hs, es], h B G H σ K _ fun vs G1 H1 ρ1 ds S1 ⟨g, h1, one, l, p, r⟩ d1 => ?_⟩
  show spG n Pre Post ((.ref γ :: vs) ++ []) H1 Q E
  rw [List.append_nil]
  obtain ⟨s', hs', γ', es', hγ', hg'⟩ := S1.ok.slot h1
  rw [hγ] at hγ'
  cases hγ'
  exact ⟨γ, vs, G1, g, ds, rfl, S1.ok.gh, (S1.ok.gm γ hγ).1, hg', d1, l, p, fun v G2 H2 d g' a1 a2 a3 a4 a5 a6 hp hd => q v G2 H2 _ d (S1.trans (Stp.stepG S1.ok h1 hγ a1 a2 a3 one a4 a5 a6)) (r d g' hp) hd⟩
end
/-! ### statements -/
section
variable {ρ : Rho} {P : Po} {te : TE} {t u : TS} {tt : TT} {i : Nat}
theorem Ends.For.mono {B : Bs} {G G' : Hp} {D : L2.Ends} (F : Ends.For B G P D) (e : Ex G G') : Ends.For B G' P D := ⟨fun G2 H2 σ' ρ' K a => F.nx G2 H2 σ' ρ' K (e.trans a), fun v G2 H2 σ' ρ' d K a => F.rt v G2 H2 σ' ρ' d K (e.trans a), fun G2 H2 σ' ρ' K a => F.bk G2 H2 σ' ρ' K (e.trans a), fun G2 H2 σ' ρ' K a => F.ct G2 H2 σ' ρ' K (e.trans a)⟩
theorem s_seq (h : wS t ρ { P with nx := fun ρ1 => wS u ρ1 P }) : wS (tSeq t u) ρ P := fun B G H σ K D F => h B G H σ K { D with nx := u D } ⟨fun G1 H1 σ1 ρ1 K1 e1 r1 => r1 B G1 H1 σ1 K1 D (F.mono e1), F.rt, F.bk, F.ct⟩
theorem s_next (h : P.nx ρ) : wS tNext ρ P := fun B G H σ K D F => F.nx G H σ ρ K (Ex.refl G) h
theorem s_brk (h : P.bk ρ) : wS tBreak ρ P := fun B G H σ K D F => F.bk G H σ ρ K (Ex.refl G) h
theorem s_cont (h : P.ct ρ) : wS tCont ρ P := fun B G H σ K D F => F.ct G H σ ρ K (Ex.refl G) h
theorem s_set (h : wE te ρ fun d ρ1 => P.nx (ρ1.set i (.dat d))) : wS (tAsg te (gName i)) ρ P := fun B G H σ K D F => h B G H σ K _ fun v G1 H1 ρ1 d S r d1 => F.nx G1 H1 _ _ (S.ok.setD d1) S.ex r
theorem s_setO (h : wO te ρ fun ds ρ1 => P.nx (ρ1.set i (.own ds))) : wS (tAsg te (gName i)) ρ P := fun B G H σ K D F => h B G H σ K _ fun p xs G1 H1 ρ1 ds S r hp hg hf h0 hn d1 => F.nx G1 H1 _ _ (S.ok.setO hp hg h0 hn d1) S.ex r
theorem s_drop (h : wE te ρ fun _ ρ1 => P.nx ρ1) : wS (tDrop te) ρ P := fun B G H σ K D F => h B G H σ K _ fun v G1 H1 ρ1 d S r d1 => F.nx G1 H1 _ _ S.ok S.ex r
theorem s_ret (h : wE te ρ P.rt) : wS (tRet te) ρ P := fun B G H σ K D F => h B G H σ K _ fun v G1 H1 ρ1 d S r d1 => F.rt v G1 H1 _ _ d S.ok S.ex r d1
theorem s_retN (h : P.rt .none ρ) : wS tRetN ρ P := fun B G H σ K D F => F.rt .non G H _ _ .none K (Ex.refl G) h .non
theorem s_if (h : wT tt ρ fun b ρ1 => if b = true then wS t ρ1 P else wS u ρ1 P) : wS (tIfS tt t u) ρ P := fun B G H σ K D F => h B G H σ K _ fun b G1 H1 ρ1 S r => by
  cases b with
  | true =>
    rw [if_pos rfl] at r ⊢
    exact r B G1 H1 σ S.ok D (F.mono S.ex)
  | false =>
    rw [if_neg Bool.false_ne_true] at r ⊢
    exact r B G1 H1 σ S.ok D (F.mono S.ex)
theorem wS.imp {P' : Po} (h : wS t ρ P) (a : ∀ ρ', P.nx ρ' → P'.nx ρ') (b : ∀ d ρ', P.rt d ρ' → P'.rt d ρ') (c : ∀ ρ', P.bk ρ' → P'.bk ρ') (d : ∀ ρ', P.ct ρ' → P'.ct ρ') : wS t ρ P' := fun B G H σ K D F =>
  h B G H σ K D ⟨fun G' H' σ' ρ' K' e r => F.nx G' H' σ' ρ' K' e (a _ r), fun v G' H' σ' ρ' x K' e r => F.rt v G' H' σ' ρ' x K' e (b _ _ r), fun G' H' σ' ρ' K' e r => F.bk G' H' σ' ρ' K' e (c _ r), fun G' H' σ' ρ' K' e r => F.ct G' H' σ' ρ' K' e (d _ r)⟩
/-! own lists -/
/-- an own list is told as data from here on -/
theorem Ok.thaw {B : Bs} {G H : Hp} {σ : L2.St} {ds : List PyData} (K : Ok B G H σ ρ) (h : ρ[i]? = some (.own ds)) : ∃ a xs, σ[i]? = some (some (.ref a)) ∧ H a = some (.lst xs) ∧ G a = none ∧ DdAll G xs ds ∧ Ex G (upd G a (.lst xs)) ∧ Ok B (upd G a (.lst xs)) H σ (ρ.set i (.dat (.list ds))) := by
  obtain ⟨s, hs, a, xs, es, ha, hg, h0, hd⟩ := K.slot h
  have il : i < ρ.length := (List.getElem?_eq_some_iff.mp h).1
  have eg : Ex G (upd G a (.lst xs)) := Ex.new hg
  have hγ : B.gp ≠ some a := fun z => by
    obtain ⟨_, _, ⟨u, q⟩⟩ := K.gm a z
    rw [h0] at q
    cases q
  have nOwn : ∀ (j : Nat) (dj : List PyData), (ρ.set i (.dat (.list ds)))[j]? = some (.own dj) → i ≠ j ∧ ρ[j]? = some (.own dj) := fun j dj e => by
    by_cases z : i = j
    · subst z
      rw [List.getElem?_set_self il] at e
      cases e
    · rw [List.getElem?_set_ne z] at e
      exact ⟨z, e⟩
  refine ⟨a, xs, by rw [hs, es], ha, hg, hd, eg, ⟨fun b u e => eg b u (K.g0 b u e), fun b u e => ?_, fun b u e q => ?_, K.kp, fun b e => ?_, by rw [List.length_set]; exact K.len, fun j e s' e1 e2 => ?_, fun j l dj dl b e1 e2 e3 e4 => K.ds j l dj dl b (nOwn j dj e1).2 (nOwn l dl e2).2 e3 e4⟩⟩
  · by_cases z : b = a
    · rw [z, upd_same] at e
      rw [z, ← e]
      exact ha
    · rw [upd_ne z] at e
      exact K.gh b u e
  · by_cases z : b = a
    · rw [z]
      exact h0
    · rw [upd_ne z] at e
      exact K.nw b u e q
  · obtain ⟨q1, q2, q3⟩ := K.gm b e
    refine ⟨?_, q2, q3⟩
    rw [upd_ne (fun z => hγ (by rw [← z]; exact e))]
    exact q1
  · by_cases z : i = j
    · subst z
      rw [List.getElem?_set_self il] at e1
      cases e1
      rw [hs] at e2
      cases e2
      exact ⟨.ref a, es, .lst upd_same (hd.mono eg)⟩
    · rw [List.getElem?_set_ne z] at e1
      have k := K.en j e s' e1 e2
      cases e with
      | no => trivial
      | raw φ => exact k
      | dat d =>
        obtain ⟨v, h1, h2⟩ := k
        exact ⟨v, h1, h2.mono eg⟩
      | own dj =>
        obtain ⟨b, ys, h1, h2, h3, h4, h5⟩ := k
        refine ⟨b, ys, h1, h2, ?_, h4, h5.mono eg⟩
        rw [upd_ne (fun y => z (K.ds i j ds dj a h e1 (by rw [hs, es]) (by rw [e2, h1, y])))]
        exact h3
      | gen g => exact k
theorem s_retO {ds : List PyData} (h : ρ[i]? = some (.own ds)) (r : P.rt (.list ds) (ρ.set i (.dat (.list ds)))) : wS (tRet (tVar i)) ρ P := fun B G H σ K D F => by
  obtain ⟨a, xs, h1, h2, h3, h4, h5, K2⟩ := K.thaw h
  exact ⟨.ref a, h1, F.rt _ _ _ _ _ _ K2 h5 r (.lst upd_same (h4.mono h5))⟩
def scalar : PyData → Bool
  | .none | .bool _ | .int _ | .str _ => true
  | _ => false
theorem Dd.scal {G G' : Hp} {v : V} {d : PyData} (h : Dd G v d) (hs : scalar d = true) : Dd G' v d := by
  cases h with
  | non => exact .non
  | bl b => exact .bl b
  | int i => exact .int i
  | str x => exact .str x
  | lst _ _ => cases hs
  | tup _ _ => cases hs
  | dct _ => cases hs
/-- the way back: what was lent as data is an own list again -/
theorem Ok.unthaw {B : Bs} {G H G' H' : Hp} {σ : L2.St} {ds : List PyData} {a : Addr} {xs : List V} {ρ1 : Rho} (K : Ok B G H σ ρ) (h : ρ[i]? = some (.own ds)) (hs : σ[i]? = some (some (.ref a))) (hx : H a = some (.lst xs)) (S : Stp B σ (ρ.set i (.dat (.list ds))) (upd G a (.lst xs)) H G' H' ρ1) :
    Stp B σ ρ G H (fun b => if b = a then none else G' b) H' (ρ1.set i (.own ds)) := by
  obtain ⟨s0, hs0, a', xs', es', ha', hg, h0, hd⟩ := K.slot h
  rw [hs] at hs0
  cases hs0
  cases es'
  rw [ha'] at hx
  cases hx
  have eg : Ex G (fun b => if b = a then none else G' b) := fun b u e => by
    have nb : b ≠ a := ne_of_none e hg
    show (if b = a then none else G' b) = some u
    rw [if_neg nb]
    refine S.ex b u ?_
    rw [upd_ne nb]
    exact e
  have hγ : B.gp ≠ some a := fun z => by
    obtain ⟨_, _, ⟨u, q⟩⟩ := K.gm a z
    rw [h0] at q
    cases q
  have hxa : H' a = some (.lst xs) := S.ok.gh _ _ (S.ex _ _ upd_same)
  have il : i < ρ.length := (List.getElem?_eq_some_iff.mp h).1
  have l1 : ρ1.length = ρ.length := by rw [← S.ok.len, K.len]
  have il1 : i < ρ1.length := by rw [l1]; exact il
  -- the entries but the i-th, generators apart, are those of ρ
  have back : ∀ (j : Nat) (e : Ent), (∀ g, e ≠ .gen g) → i ≠ j → (ρ1[j]? = some e ↔ ρ[j]? = some e) := fun j e ne z => by
    rw [← S.es j e ne, List.getElem?_set_ne z]
  refine ⟨⟨fun b u e => eg b u (K.g0 b u e), fun b u e => ?_, fun b u e q => ?_, S.ok.kp, fun b e => ?_, by rw [List.length_set, l1]; exact K.len, fun j e s' e1 e2 => ?_, fun j l dj dl b e1 e2 e3 e4 => ?_⟩, eg, S.fr, fun j e ne => ?_, fun b u e e' => ?_⟩
  · have e : (if b = a then none else G' b) = some u := e
    by_cases z : b = a
    · rw [if_pos z] at e
      cases e
    · rw [if_neg z] at e
      exact S.ok.gh b u e
  · have e : (if b = a then none else G' b) = some u := e
    by_cases z : b = a
    · rw [if_pos z] at e
      cases e
    · rw [if_neg z] at e
      exact S.ok.nw b u e q
  · obtain ⟨q1, q2, q3⟩ := S.ok.gm b e
    refine ⟨?_, q2, q3⟩
    show (if b = a then none else G' b) = none
    rw [q1]
    split <;> rfl
  · by_cases z : i = j
    · subst z
      rw [List.getElem?_set_self il1] at e1
      cases e1
      rw [hs] at e2
      cases e2
      exact ⟨a, xs, rfl, hxa, if_pos rfl, h0, hd.mono eg⟩
    · rw [List.getElem?_set_ne z] at e1
      have k := S.ok.en j e s' e1 e2
      cases e with
      | no => trivial
      | raw φ => exact k
      | dat d =>
        have k0 := K.en j _ s' ((back j _ (fun g q => by cases q) z).mp e1) e2
        obtain ⟨v, h1, h2⟩ := k0
        exact ⟨v, h1, h2.mono eg⟩
      | own dj =>
        have e0 := (back j _ (fun g q => by cases q) z).mp e1
        obtain ⟨b', ys', h1', h2', h3', h4', h5'⟩ := K.en j _ s' e0 e2
        obtain ⟨b, ys, h1, h2, h3, h4, h5⟩ := k
        have hb : b = b' := by
          rw [h1] at h1'
          cases h1'
          rfl
        subst hb
        have nb : b ≠ a := fun y => z (K.ds i j ds dj a h e0 hs (by rw [e2, h1, y]))
        have hfr := S.fr b _ h2' (fun q => by
          obtain ⟨_, _, ⟨u, w⟩⟩ := K.gm b q
          rw [h4] at w
          cases w)
        refine ⟨b, ys', h1, hfr, ?_, h4, h5'.mono eg⟩
        show (if b = a then none else G' b) = none
        rw [h3]
        split <;> rfl
      | gen g => exact k
  · have to0 : ∀ (m : Nat) (dm : List PyData), (ρ1.set i (.own ds))[m]? = some (.own dm) → ∃ d', ρ[m]? = some (.own d') := fun m dm e => by
      by_cases z : i = m
      · subst z
        exact ⟨ds, h⟩
      · rw [List.getElem?_set_ne z] at e
        exact ⟨dm, (back m _ (fun g q => by cases q) z).mp e⟩
    obtain ⟨d1, q1⟩ := to0 j dj e1
    obtain ⟨d2, q2⟩ := to0 l dl e2
    exact K.ds j l d1 d2 b q1 q2 e3 e4
  · by_cases z : i = j
    · subst z
      rw [List.getElem?_set_self il1, h]
    · rw [List.getElem?_set_ne z]
      exact (back j e ne z).symm
  · have e : (if b = a then none else G' b) = some u := e
    by_cases z : b = a
    · rw [if_pos z] at e
      cases e
    · rw [if_neg z] at e
      exact S.nw b u e (by rw [upd_ne z]; exact e')
/-- an own list read while it stays as it is; the answer holds nothing of it -/
theorem w_thaw {R : PyData → Rho → Prop} {ds : List PyData} (h : ρ[i]? = some (.own ds)) (r : wE te (ρ.set i (.dat (.list ds))) fun d ρ1 => scalar d = true ∧ R d (ρ1.set i (.own ds))) : wE te ρ R := fun B G H σ K Q q => by
  obtain ⟨a, xs, h1, h2, h3, h4, h5, K2⟩ := K.thaw h
  refine r B _ H σ K2 Q fun v G' H' ρ1 d S ⟨hs, hr⟩ hd => ?_
  exact q v _ H' _ d (K.unthaw h h1 h2 S) hr (hd.scal hs)
theorem w_thawT {R : Bool → Rho → Prop} {ds : List PyData} (h : ρ[i]? = some (.own ds)) (r : wT tt (ρ.set i (.dat (.list ds))) fun d ρ1 => R d (ρ1.set i (.own ds))) : wT tt ρ R := fun B G H σ K Q q => by
  obtain ⟨a, xs, h1, h2, h3, h4, h5, K2⟩ := K.thaw h
  refine r B _ H σ K2 Q fun b G' H' ρ1 S hr => ?_
  exact q b _ H' _ (K.unthaw h h1 h2 S) hr
end
end DL

namespace DL
open PySem PySem.Spec PyProof.Rows L2
open Evl (Ex)
/-! ### iterables told as data -/
/-- what a turn hands out -/
def Yl (G H : Hp) (x : V) (H2 : Hp) (d : PyData) : Prop := (H2 = H ∧ Dd G x d) ∨ ∃ p xs es, H p = none ∧ H2 = upd H p (.tup xs) ∧ x = .ref p ∧ d = .tuple es ∧ DdAll G xs es
def ItW (J : It) (G : Hp) (ds : List PyData) : Prop := ∀ G' H', Ex G G' → Ex G' H' → ∀ i, (ds.length ≤ i → J.stop i H') ∧ ∀ d, ds[i]? = some d → J.go i H' ∧ ∀ x H2, J.yld i H' x H2 → Yl G' H' x H2 d
def wI (wi : TI) (ρ : Rho) (R : List PyData → Rho → Prop) : Prop := ∀ B G H σ, Ok B G H σ ρ → ∀ RR : It → Hp → Prop, (∀ J G' H' ρ' ds, Stp B σ ρ G H G' H' ρ' → R ds ρ' → ItW J G' ds → RR J H') → wi σ H RR
theorem Yl.stp {B : Bs} {G H H2 : Hp} {σ : L2.St} {ρ : Rho} {x : V} {d : PyData} (K : Ok B G H σ ρ) (y : Yl G H x H2 d) : ∃ G2, Stp B σ ρ G H G2 H2 ρ ∧ Dd G2 x d := by
  rcases y with ⟨e, h⟩ | ⟨p, xs, es, hp, e1, e2, e3, h⟩
  · subst e
    exact ⟨G, Stp.refl K, h⟩
  · subst e1
    subst e2
    subst e3
    have S := Stp.laidF K (o := .tup xs) hp
    exact ⟨_, S, .tup upd_same (h.mono S.ex)⟩
section
variable {ρ : Rho} {R : List PyData → Rho → Prop} {te : TE} {ta : TA} {K : PySem.W.Frag}
theorem i_list (h : wE te ρ fun d ρ1 => ∃ ds, d = .list ds ∧ R ds ρ1) : wI (iList K te) ρ R := fun B G H σ K0 RR q => h B G H σ K0 _ fun v G1 H1 ρ1 d S ⟨ds, e, r⟩ d1 => by
  subst e
  obtain ⟨a, xs, rfl, ga, da⟩ := d1.lst'
  refine ⟨a, rfl, ⟨xs, .inl (.inl (S.ok.gh _ _ ga))⟩, q _ _ _ _ ds S r fun G' H' eg eh i => ?_⟩
  have at_ : SqL K H' a xs := .inl (.inl (eh _ _ (eg _ _ ga)))
  refine ⟨fun hi => ⟨xs, at_, by rw [da.length]; exact hi⟩, fun d hd => ?_⟩
  obtain ⟨v, h1, h2⟩ := da.getd hd
  refine ⟨⟨xs, v, at_, h1⟩, fun x H2 ⟨e, f⟩ => .inl ⟨e, ?_⟩⟩
  have := f xs at_
  rw [h1] at this
  cases this
  exact h2.mono eg
theorem i_tup (h : wE te ρ fun d ρ1 => ∃ ds, d = .tuple ds ∧ R ds ρ1) : wI (iTup K te) ρ R := fun B G H σ K0 RR q => h B G H σ K0 _ fun v G1 H1 ρ1 d S ⟨ds, e, r⟩ d1 => by
  subst e
  obtain ⟨a, xs, rfl, ga, da⟩ := d1.tup'
  refine ⟨a, rfl, ⟨xs, .inl (.inl (S.ok.gh _ _ ga))⟩, q _ _ _ _ ds S r fun G' H' eg eh i => ?_⟩
  have at_ : SqT K H' a xs := .inl (.inl (eh _ _ (eg _ _ ga)))
  refine ⟨fun hi => ⟨xs, at_, by rw [da.length]; exact hi⟩, fun d hd => ?_⟩
  obtain ⟨v, h1, h2⟩ := da.getd hd
  refine ⟨⟨xs, v, at_, h1⟩, fun x H2 ⟨e, f⟩ => .inl ⟨e, ?_⟩⟩
  have := f xs at_
  rw [h1] at this
  cases this
  exact h2.mono eg
/-- lo, lo + 1, .. -/
def rngD (lo : Int) (n : Nat) : List PyData := (List.range n).map fun i : Nat => .int (lo + i)
theorem rngD_get {lo : Int} {n i : Nat} {d : PyData} (h : (rngD lo n)[i]? = some d) : i < n ∧ d = .int (lo + i) := by
  unfold rngD at h
  rw [List.getElem?_map] at h
  cases q : (List.range n)[i]? with
  | none =>
    rw [q] at h
    cases h
  | some j =>
    rw [q] at h
    have := List.getElem?_eq_some_iff.mp q
    obtain ⟨h1, h2⟩ := this
    rw [List.getElem_range] at h2
    subst h2
    cases h
    exact ⟨by simpa using h1, rfl⟩
theorem rngD_len {lo : Int} {n : Nat} : (rngD lo n).length = n := by simp [rngD]
theorem itw_rng {G : Hp} (lo : Int) (n : Nat) : ItW (Itr lo n) G (rngD lo n) := fun G' H' eg eh i => ⟨fun h => by
  rw [rngD_len] at h
  exact h, fun d hd => ⟨(rngD_get hd).1, fun x H2 ⟨e, f⟩ => .inl ⟨e, by
    rw [f, (rngD_get hd).2]
    exact .int _⟩⟩⟩
theorem i_rng1 (h : wA ta ρ fun ds ρ1 => ∃ j, ds = [.int j] ∧ -(2 ^ 62) ≤ j ∧ j < 2 ^ 62 ∧ R (rngD 0 j.toNat) ρ1) : wI (iRng1 ta) ρ R := fun B G H σ K0 RR q => h B G H σ K0 _ fun vs G1 H1 ρ1 ds S ⟨j, e, h1, h2, r⟩ d1 => by
  subst e
  obtain ⟨v, rfl, dv⟩ := d1.one
  exact ⟨j, by rw [dv.int'], h1, h2, q _ _ _ _ _ S r (itw_rng _ _)⟩
theorem i_rng2 (h : wA ta ρ fun ds ρ1 => ∃ i j, ds = [.int i, .int j] ∧ (-(2 ^ 62) ≤ i ∧ i < 2 ^ 62 ∧ -(2 ^ 62) ≤ j ∧ j < 2 ^ 62) ∧ R (rngD i (j - i).toNat) ρ1) : wI (iRng2 ta) ρ R := fun B G H σ K0 RR q => h B G H σ K0 _ fun vs G1 H1 ρ1 ds S ⟨i, j, e, h1, r⟩ d1 => by
  subst e
  obtain ⟨v, w, rfl, dv, dw⟩ := d1.two
  exact ⟨i, j, by rw [dv.int', dw.int'], h1, q _ _ _ _ _ S r (itw_rng _ _)⟩
end
/-! ### targets -/
def wG (g : TG) (d : PyData) (ρ : Rho) (R : Rho → Prop) : Prop := ∀ B G H σ v, Ok B G H σ ρ → Dd G v d → ∀ Q : L2.St → Hp → Prop, (∀ σ' ρ', Ok B G H σ' ρ' → R ρ' → Q σ' H) → g v σ H Q
def wGs (g : TGs) (ds : List PyData) (ρ : Rho) (R : Rho → Prop) : Prop := ∀ B G H σ vs, Ok B G H σ ρ → DdAll G vs ds → ∀ Q : L2.St → Hp → Prop, (∀ σ' ρ', Ok B G H σ' ρ' → R ρ' → Q σ' H) → g vs σ H Q
section
variable {ρ : Rho} {R : Rho → Prop} {d : PyData} {ds : List PyData} {K : PySem.W.Frag}
theorem g_name {i : Nat} (r : R (ρ.set i (.dat d))) : wG (gName i) d ρ R := fun B G H σ v K hd Q q => q _ _ (K.setD hd) r
theorem gs_nil (r : R ρ) : wGs gNil [] ρ R := fun B G H σ vs K hd Q q => by
  cases hd
  exact ⟨rfl, q _ _ K r⟩
theorem gs_cons {g : TG} {t : TGs} (h : wG g d ρ fun ρ1 => wGs t ds ρ1 R) : wGs (gCons g t) (d :: ds) ρ R := fun B G H σ vs K hd Q q => by
  cases hd with
  | cons a b => exact ⟨_, _, rfl, h B G H σ _ K a _ fun σ' ρ' K' r => r B G H σ' _ K' b Q q⟩
theorem g_tup {n : Nat} {t : TGs} (hn : ds.length = n) (h : wGs t ds ρ R) : wG (gTup K n t) (.tuple ds) ρ R := fun B G H σ v K hd Q q => by
  obtain ⟨a, xs, rfl, ga, da⟩ := hd.tup'
  exact ⟨a, xs, rfl, .inl (.inl (K.gh _ _ ga)), by rw [da.length, hn], h B G H σ xs K da Q q⟩
end
/-! ### statements -/
section
variable {ρ : Rho} {P : Po} {te : TE} {ta : TA} {t : TS} {i j l : Nat}
theorem s_asgG {g : TG} (h : wE te ρ fun d ρ1 => wG g d ρ1 P.nx) : wS (tAsg te g) ρ P := fun B G H σ K D F => h B G H σ K _ fun v G1 H1 ρ1 d S r d1 => r B G1 H1 σ v S.ok d1 _ fun σ' ρ' K' r' => F.nx G1 H1 _ _ K' S.ex r'
theorem s_par (h : wA ta ρ fun ds ρ1 => ∃ d e, ds = [d, e] ∧ P.nx ((ρ1.set i (.dat d)).set j (.dat e))) : wS (tPar i j ta) ρ P := fun B G H σ K D F => h B G H σ K _ fun vs G1 H1 ρ1 ds S ⟨d, e, ed, r⟩ d1 => by
  subst ed
  obtain ⟨v, w, rfl, dv, dw⟩ := d1.two
  exact ⟨v, w, rfl, F.nx G1 H1 _ _ ((S.ok.setD dv).setD dw) S.ex r⟩
theorem s_par3 (h : wA ta ρ fun ds ρ1 => ∃ d e f, ds = [d, e, f] ∧ P.nx (((ρ1.set i (.dat d)).set j (.dat e)).set l (.dat f))) : wS (tPar3 i j l ta) ρ P := fun B G H σ K D F => h B G H σ K _ fun vs G1 H1 ρ1 ds S ⟨d, e, f, ed, r⟩ d1 => by
  subst ed
  cases d1 with
  | cons du d1 =>
    obtain ⟨v, w, rfl, dv, dw⟩ := d1.two
    exact ⟨_, v, w, rfl, F.nx G1 H1 _ _ (((S.ok.setD du).setD dv).setD dw) S.ex r⟩
theorem NotOwn.set {B : Bs} {G H : Hp} {σ : L2.St} {p : Addr} {v : V} {d : PyData} (K : Ok B G H σ ρ) (h : NotOwn σ ρ p) : NotOwn (σ.set i (some v)) (ρ.set i (.dat d)) p := fun m dm e => by
  have nj : i ≠ m := fun z => by
    subst z
    have hj : i < ρ.length := by
      have := (List.getElem?_eq_some_iff.mp e).1
      simpa using this
    rw [List.getElem?_set_self hj] at e
    cases e
  rw [List.getElem?_set_ne nj] at e ⊢
  exact h m dm e
/-- data beside a new list of the def's own -/
theorem s_parO {tb : TE} (h : wE te ρ fun d ρ1 => wO tb ρ1 fun ds ρ2 => P.nx ((ρ2.set i (.dat d)).set j (.own ds))) : wS (tPar i j (tCons te (tCons tb tNil))) ρ P := fun B G H σ K D F => h B G H σ K _ fun v G1 H1 ρ1 d S r d1 => r B G1 H1 σ S.ok _ fun p xs G2 H2 ρ2 ds S2 r2 hp hg hf h0 hn d2 => by
  refine ⟨v, .ref p, rfl, F.nx G2 H2 _ _ ?_ (S.ex.trans S2.ex) r2⟩
  exact (S2.ok.setD (d1.mono S2.ex)).setO hp hg h0 (hn.set S2.ok) d2
theorem s_par3O {tb tc : TE} (h : wE te ρ fun d ρ1 => wE tb ρ1 fun e ρ2 => wO tc ρ2 fun ds ρ3 => P.nx (((ρ3.set i (.dat d)).set j (.dat e)).set l (.own ds))) : wS (tPar3 i j l (tCons te (tCons tb (tCons tc tNil)))) ρ P := fun B G H σ K D F => h B G H σ K _ fun v G1 H1 ρ1 d S r d1 => r B G1 H1 σ S.ok _ fun w G2 H2 ρ2 e S2 r2 d2 => r2 B G2 H2 σ S2.ok _ fun p xs G3 H3 ρ3 ds S3 r3 hp hg hf h0 hn d3 => by
  refine ⟨v, w, .ref p, rfl, F.nx G3 H3 _ _ ?_ ((S.ex.trans S2.ex).trans S3.ex) r3⟩
  have K1 := S3.ok.setD (i := i) (d1.mono (S2.ex.trans S3.ex))
  have n1 := hn.set (i := i) (v := v) (d := d) S3.ok
  exact (K1.setD (d2.mono S3.ex)).setO hp hg h0 (n1.set K1) d3
/-- the whole list that a slot owns is another one -/
theorem Ok.poke {B : Bs} {G H : Hp} {σ : L2.St} {ds ds' : List PyData} {a : Addr} {xs : List V} (K : Ok B G H σ ρ) (h : ρ[i]? = some (.own ds)) (hs : σ[i]? = some (some (.ref a))) (hd : DdAll G xs ds') : Ok B G (upd H a (.lst xs)) σ (ρ.set i (.own ds')) := by
  obtain ⟨s0, hs0, a', xs', es', ha', hg, h0, _⟩ := K.slot h
  rw [hs] at hs0
  cases hs0
  cases es'
  have il : i < ρ.length := (List.getElem?_eq_some_iff.mp h).1
  have hγ : B.gp ≠ some a := fun z => by
    obtain ⟨_, _, ⟨u, q⟩⟩ := K.gm a z
    rw [h0] at q
    cases q
  have was : ∀ (m : Nat) (dm : List PyData), (ρ.set i (.own ds'))[m]? = some (.own dm) → ∃ d', ρ[m]? = some (.own d') := fun m dm e => by
    by_cases z : i = m
    · subst z
      exact ⟨ds, h⟩
    · rw [List.getElem?_set_ne z] at e
      exact ⟨dm, e⟩
  refine ⟨K.g0, fun b u e => ?_, K.nw, fun b u e q => ?_, fun b e => ?_, by rw [List.length_set]; exact K.len, fun j e s e1 e2 => ?_, fun j l dj dl b e1 e2 e3 e4 => ?_⟩
  · rw [upd_ne (fun z => by rw [z, hg] at e; cases e)]
    exact K.gh b u e
  · rw [upd_ne (fun z => by rw [z, h0] at e; cases e)]
    exact K.kp b u e q
  · obtain ⟨q1, ⟨u, q2⟩, q3⟩ := K.gm b e
    refine ⟨q1, ⟨u, ?_⟩, q3⟩
    rw [upd_ne (fun z => hγ (by rw [← z]; exact e))]
    exact q2
  · by_cases z : i = j
    · subst z
      rw [List.getElem?_set_self il] at e1
      cases e1
      rw [hs] at e2
      cases e2
      exact ⟨a, xs, rfl, upd_same, hg, h0, hd⟩
    · rw [List.getElem?_set_ne z] at e1
      have k := K.en j e s e1 e2
      cases e with
      | no => trivial
      | raw φ => exact k
      | dat d => exact k
      | own dj =>
        obtain ⟨b, ys, h1, h2, h3, h4, h5⟩ := k
        refine ⟨b, ys, h1, ?_, h3, h4, h5⟩
        rw [upd_ne (fun y => z (K.ds i j ds dj a h e1 hs (by rw [e2, h1, y])))]
        exact h2
      | gen g =>
        obtain ⟨b, h1, h2, h3⟩ := k
        refine ⟨b, h1, h2, ?_⟩
        rw [upd_ne (fun y => hγ (by rw [← y]; exact h2))]
        exact h3
  · obtain ⟨d1, q1⟩ := was j dj e1
    obtain ⟨d2, q2⟩ := was l dl e2
    exact K.ds j l d1 d2 b q1 q2 e3 e4
theorem Stp.own {B : Bs} {G H G' H' : Hp} {σ : L2.St} {ρ' : Rho} (S : Stp B σ ρ G H G' H' ρ') {ds : List PyData} (h : ρ[i]? = some (.own ds)) : ρ'[i]? = some (.own ds) := (S.es i _ (fun g z => by cases z)).mp h
/-- xs.append(e) -/
theorem s_app {ds : List PyData} {K0 : PySem.W.Frag} (h : ρ[i]? = some (.own ds)) (r : wE te ρ fun d ρ1 => ds.length < sizeLine ∧ P.nx (ρ1.set i (.own (ds ++ [d])))) : wS (tDrop (tBM K0 "list" rAppend (tVar i) (tCons te tNil))) ρ P := fun B G H σ K D F => by
  obtain ⟨s, hs, a, xs, es, ha, hg, h0, hd⟩ := K.slot h
  refine ⟨.ref a, by rw [hs, es], ?_, ?_⟩
  · exact .inl ⟨rfl, xs, .inl (.inl ha)⟩
  refine r B G H σ K _ fun v G1 H1 ρ1 d S ⟨hz, r1⟩ d1 => ?_
  obtain ⟨s', hs', a', xs', es', ha', hg', h0', hd'⟩ := S.ok.slot (S.own h)
  rw [hs, es] at hs'
  subst es'
  cases hs'
  refine ⟨a, xs', v, rfl, rfl, ha', by rw [hd'.length]; exact hz, F.nx G1 _ σ _ ?_ S.ex r1⟩
  exact S.ok.poke (S.own h) (by rw [hs, es]) (hd'.append (.cons d1 .nil))
/-- xs[k] = e -/
theorem s_at {ds : List PyData} {ti : TE} (h : ρ[i]? = some (.own ds)) (r : wE te ρ fun d ρ1 => wE ti ρ1 fun k ρ2 => ∃ n m, k = .int n ∧ ixN ds.length n = some m ∧ P.nx (ρ2.set i (.own (ds.set m d)))) : wS (tAsg te (gSub (tVar i) ti rSetL)) ρ P := fun B G H σ K D F => r B G H σ K _ fun v G1 H1 ρ1 d S r1 d1 => by
  obtain ⟨s, hs, a, xs, es, ha, hg, h0, hd⟩ := S.ok.slot (S.own h)
  refine ⟨.ref a, by rw [hs, es], ?_⟩
  refine r1 B G1 H1 σ S.ok _ fun vk G2 H2 ρ2 k S2 ⟨n, m, ek, hm, r2⟩ d2 => ?_
  subst ek
  have h2 := (S.trans S2).own h
  obtain ⟨s', hs', a', xs', es', ha', hg', h0', hd'⟩ := S2.ok.slot h2
  rw [hs, es] at hs'
  subst es'
  cases hs'
  refine ⟨a, xs', n, m, rfl, d2.int', ha', by rw [hd'.length]; exact hm, F.nx G2 _ σ _ ?_ (S.ex.trans S2.ex) r2⟩
  exact S2.ok.poke h2 (by rw [hs, es]) (DdAll.set (d1.mono S2.ex) m hd')
/-! for -/
theorem s_for {wi : TI} {g : TG} (h : wI wi ρ fun ds ρ1 => ∃ I : Nat → Rho → Prop, I 0 ρ1 ∧ (∀ ρ', I ds.length ρ' → P.nx ρ') ∧ ∀ i d ρ', ds[i]? = some d → I i ρ' → wG g d ρ' fun ρ2 => wS t ρ2 ⟨I (i + 1), P.rt, P.nx, I (i + 1)⟩) : wS (tFor wi g t) ρ P := fun B G H σ K D F =>
  h B G H σ K _ fun J G1 H1 ρ1 ds S ⟨I, i0, fin, turn⟩ it => by
    refine ⟨fun i m σ' H' => m = ds.length - i ∧ i ≤ ds.length ∧ ∃ G' ρ', Ok B G' H' σ' ρ' ∧ Ex G1 G' ∧ I i ρ', ⟨_, rfl, Nat.zero_le _, G1, ρ1, S.ok, Ex.refl G1, i0⟩, fun i m σ' H' ⟨em, hi, G', ρ', K', e', inv⟩ => ?_⟩
    by_cases z : i = ds.length
    · subst z
      exact .inl ⟨(it G' H' e' K'.gh _).1 (Nat.le_refl _), F.nx _ _ _ _ K' (S.ex.trans e') (fin _ inv)⟩
    · have hlt : i < ds.length := by omega
      have hd : ds[i]? = some ds[i] := List.getElem?_eq_getElem hlt
      obtain ⟨go, yl⟩ := (it G' H' e' K'.gh i).2 _ hd
      refine .inr ⟨go, fun σ2 H2 => ∃ G2 ρ2, Ok B G2 H2 σ2 ρ2 ∧ Ex G1 G2 ∧ I (i + 1) ρ2, fun σ2 H2 ⟨G2, ρ2, K2, e2, inv2⟩ => ⟨ds.length - (i + 1), by omega, rfl, by omega, G2, ρ2, K2, e2, inv2⟩, fun x H2 y => ?_⟩
      obtain ⟨G2, S2, d2⟩ := (yl x H2 y).stp K'
      refine turn i _ ρ' hd inv B G2 H2 σ' x S2.ok d2 _ fun σ3 ρ3 K3 w => ?_
      have e3 := e'.trans S2.ex
      exact w B G2 H2 σ3 K3 _ ⟨fun G' H' σ' ρ' K a b => ⟨G', ρ', K, e3.trans a, b⟩, fun v G' H' σ' ρ' d K a b c => F.rt v G' H' σ' ρ' d K ((S.ex.trans e3).trans a) b c, fun G' H' σ' ρ' K a b => F.nx _ _ _ _ K ((S.ex.trans e3).trans a) b, fun G' H' σ' ρ' K a b => ⟨G', ρ', K, e3.trans a, b⟩⟩
/-- while, by a measure -/
theorem s_while {tt : TT} (I : Nat → Rho → Prop) {m0 : Nat} (i0 : I m0 ρ) (turn : ∀ m ρ', I m ρ' → wT tt ρ' fun b ρ1 => if b = true then wS t ρ1 ⟨fun ρ2 => ∃ m', m' < m ∧ I m' ρ2, P.rt, P.nx, fun ρ2 => ∃ m', m' < m ∧ I m' ρ2⟩ else P.nx ρ1) : wS (tWhile tt t) ρ P := fun B G H σ K D F => by
  refine ⟨fun m σ' H' => ∃ G' ρ', Ok B G' H' σ' ρ' ∧ Ex G G' ∧ I m ρ', ⟨m0, G, ρ, K, Ex.refl G, i0⟩, fun m σ' H' ⟨G', ρ', K', e', inv⟩ => ?_⟩
  refine turn m ρ' inv B G' H' σ' K' _ fun b G1 H1 ρ1 S r => ?_
  have e1 := e'.trans S.ex
  cases b with
  | true =>
    rw [if_pos rfl] at r ⊢
    refine ⟨fun σ2 H2 => ∃ m', m' < m ∧ ∃ G2 ρ2, Ok B G2 H2 σ2 ρ2 ∧ Ex G G2 ∧ I m' ρ2, fun σ2 H2 h => h, ?_⟩
    exact r B G1 H1 σ' S.ok _ ⟨fun G' H' σ' ρ' K a ⟨m', lt, b⟩ => ⟨m', lt, G', ρ', K, e1.trans a, b⟩, fun v G' H' σ' ρ' d K a b c => F.rt v G' H' σ' ρ' d K (e1.trans a) b c, fun G' H' σ' ρ' K a b => F.nx _ _ _ _ K (e1.trans a) b, fun G' H' σ' ρ' K a ⟨m', lt, b⟩ => ⟨m', lt, G', ρ', K, e1.trans a, b⟩⟩
  | false =>
    rw [if_neg Bool.false_ne_true] at r ⊢
    exact F.nx _ _ _ _ S.ok e1 r
end
end DL

namespace DL
open PySem PySem.Spec PyProof.Rows L2
open Evl (Ex)
/-! ### comprehensions -/
def wipeR (ρ : Rho) : List Nat → Rho
  | [] => ρ
  | v :: vs => (wipeR ρ vs).set v .no
theorem wipeR_len (ρ : Rho) : ∀ vs : List Nat, (wipeR ρ vs).length = ρ.length
  | [] => rfl
  | v :: vs => by unfold wipeR; rw [List.length_set, wipeR_len ρ vs]
theorem wipeR_out {ρ : Rho} {i : Nat} : ∀ {vs : List Nat}, i ∉ vs → (wipeR ρ vs)[i]? = ρ[i]?
  | [], _ => rfl
  | v :: vs, h => by
    unfold wipeR
    rw [List.getElem?_set_ne (fun z => h (by rw [z]; exact List.mem_cons_self)), wipeR_out (fun z => h (List.mem_cons_of_mem _ z))]
theorem wipeR_in {ρ : Rho} {i : Nat} (hi : i < ρ.length) : ∀ {vs : List Nat}, i ∈ vs → (wipeR ρ vs)[i]? = some .no
  | v :: vs, h => by
    unfold wipeR
    by_cases z : v = i
    · subst z
      rw [List.getElem?_set_self (by rw [wipeR_len]; exact hi)]
    · rw [List.getElem?_set_ne z]
      rcases List.mem_cons.mp h with q | q
      · exact absurd q.symm z
      · exact wipeR_in hi q
section
variable {B : Bs} {G H G' H' : Hp} {σ σ2 : L2.St} {ρ ρ2 ρ3 ρ' : Rho} {vs : List Nat}
theorem Stp.leave (K : Ok B G H σ ρ) (hno : ∀ j ∈ vs, ρ[j]? = some .no) (hw : wipe σ2 vs = wipe σ vs) (hr : ∀ k, k ∉ vs → ρ2[k]? = ρ[k]?) (S : Stp B σ2 ρ2 G H G' H' ρ3) : Stp B σ ρ G H G' H' (wipeR ρ3 vs) := by
  have l2 : σ2.length = σ.length := by
    have := congrArg List.length hw
    rw [wipe_length, wipe_length] at this
    exact this
  have l3 : ρ3.length = ρ.length := by rw [← S.ok.len, l2, K.len]
  have hs : ∀ k, k ∉ vs → σ2[k]? = σ[k]? := fun k hk => by
    rw [← wipe_out (σ := σ2) hk, hw, wipe_out hk]
  have hin : ∀ k e, (wipeR ρ3 vs)[k]? = some e → k ∈ vs → e = .no := fun k e h hk => by
    have kl := (List.getElem?_eq_some_iff.mp h).1
    rw [wipeR_len] at kl
    rw [wipeR_in kl hk] at h
    exact (Option.some.inj h).symm
  refine ⟨⟨S.ok.g0, S.ok.gh, S.ok.nw, S.ok.kp, S.ok.gm, by rw [wipeR_len, l3, K.len], fun k e s e1 e2 => ?_, fun j l dj dl a e1 e2 e3 e4 => ?_⟩, S.ex, S.fr, fun k e ne => ?_, S.nw⟩
  · by_cases z : k ∈ vs
    · rw [hin k e e1 z]
      trivial
    · rw [wipeR_out z] at e1
      rw [← hs k z] at e2
      exact S.ok.en k e s e1 e2
  · have nj : j ∉ vs := fun z => by cases hin j _ e1 z
    have nl : l ∉ vs := fun z => by cases hin l _ e2 z
    rw [wipeR_out nj] at e1
    rw [wipeR_out nl] at e2
    rw [← hs _ nj] at e3
    rw [← hs _ nl] at e4
    exact S.ok.ds j l dj dl a e1 e2 e3 e4
  · by_cases z : k ∈ vs
    · have hk := hno k z
      rw [hk, wipeR_in (by rw [l3]; exact (List.getElem?_eq_some_iff.mp hk).1) z]
    · rw [wipeR_out z, ← hr k z]
      exact S.es k e ne
theorem Stp.poke {ρ1 : Rho} {D : Addr} {o : HO} (K : Ok B G H σ ρ) (S : Stp B σ ρ G H G' H' ρ1) (hf : H D = none) (hg : G' D = none) : Stp B σ ρ G H G' (upd H' D o) ρ1 := by
  obtain ⟨_, h0, hγ, hn0⟩ := K.free0 hf
  have hn := S.ow hn0
  refine ⟨⟨S.ok.g0, fun a u e => ?_, S.ok.nw, fun a u e q => ?_, fun a e => ?_, S.ok.len, fun i e s e1 e2 => ?_, S.ok.ds⟩, S.ex, fun a u e q => ?_, S.es, S.nw⟩
  · rw [upd_ne (fun z => by rw [z, hg] at e; cases e)]
    exact S.ok.gh a u e
  · rw [upd_ne (fun z => by rw [z, h0] at e; cases e)]
    exact S.ok.kp a u e q
  · obtain ⟨q1, ⟨u, q2⟩, q3⟩ := S.ok.gm a e
    refine ⟨q1, ⟨u, ?_⟩, q3⟩
    rw [upd_ne (fun z => hγ (by rw [← z]; exact e))]
    exact q2
  · have k := S.ok.en i e s e1 e2
    cases e with
    | no => trivial
    | raw φ => exact k
    | dat d => exact k
    | own dj =>
      obtain ⟨b, ys, h1, h2, h3, h4, h5⟩ := k
      refine ⟨b, ys, h1, ?_, h3, h4, h5⟩
      rw [upd_ne (fun y => hn i dj e1 (by rw [e2, h1, y]))]
      exact h2
    | gen g =>
      obtain ⟨b, h1, h2, h3⟩ := k
      refine ⟨b, h1, h2, ?_⟩
      rw [upd_ne (fun y => hγ (by rw [← y]; exact h2))]
      exact h3
  · rw [upd_ne (fun z => by rw [z, hf] at e; cases e)]
    exact S.fr a u e q
end
def wGc (g : TG) (vs : List Nat) (d : PyData) (ρ : Rho) (R : Rho → Prop) : Prop := ∀ B G H σ v, Ok B G H σ ρ → Dd G v d → ∀ Q : L2.St → Hp → Prop, (∀ σ2 ρ2, wipe σ2 vs = wipe σ vs → Ok B G H σ2 ρ2 → (∀ k, k ∉ vs → ρ2[k]? = ρ[k]?) → R ρ2 → Q σ2 H) → g v (wipe σ vs) H Q
section
variable {ρ : Rho} {R : Rho → Prop} {d e : PyData} {K0 : PySem.W.Frag} {i j : Nat}
theorem gc_name (r : R (ρ.set j (.dat d))) : wGc (gName j) [j] d ρ R := fun B G H σ v K hd Q q => by
  show Q ((σ.set j none).set j (some v)) H
  rw [List.set_set]
  refine q _ (ρ.set j (.dat d)) ?_ (K.setD hd) (fun k hk => ?_) r
  · show (σ.set j (some v)).set j none = σ.set j none
    rw [List.set_set]
  · rw [List.getElem?_set_ne (fun z => hk (by rw [z]; exact List.mem_cons_self))]
theorem set_comm' {α : Type} (σ : List α) {i j : Nat} {x y : α} (h : i ≠ j) : (σ.set i x).set j y = (σ.set j y).set i x := List.set_comm _ _ h
theorem gc_two (hij : i ≠ j) (r : R ((ρ.set i (.dat d)).set j (.dat e))) : wGc (gTup K0 2 (gCons (gName i) (gCons (gName j) gNil))) [i, j] (.tuple [d, e]) ρ R := fun B G H σ v K hd Q q => by
  obtain ⟨a, xs, rfl, ga, da⟩ := hd.tup'
  obtain ⟨x, y, rfl, dx, dy⟩ := da.two
  refine ⟨a, [x, y], rfl, .inl (.inl (K.gh _ _ ga)), rfl, x, [y], rfl, y, [], rfl, rfl, ?_⟩
  show Q ((((σ.set j none).set i none).set i (some x)).set j (some y)) H
  rw [List.set_set, List.set_comm _ _ (Ne.symm hij), List.set_set]
  refine q _ ((ρ.set i (.dat d)).set j (.dat e)) ?_ ((K.setD dx).setD dy) (fun k hk => ?_) r
  · show (((σ.set i (some x)).set j (some y)).set j none).set i none = (σ.set j none).set i none
    rw [List.set_set, List.set_comm _ _ hij, List.set_set]
  · rw [List.getElem?_set_ne (fun z => hk (by rw [z]; simp)), List.getElem?_set_ne (fun z => hk (by rw [z]; simp))]
end
section
variable {ρ : Rho} {RO : List PyData → Rho → Prop} {R : PyData → Rho → Prop} {wi : TI} {g : TG} {tt : TT} {te : TE} {vs : List Nat}
theorem wO_lc (hno : ∀ j ∈ vs, ρ[j]? = some .no) (h : wI wi ρ fun ds ρ1 => ∃ I : Nat → List PyData → Rho → Prop, I 0 [] ρ1 ∧ (∀ acc ρ', I ds.length acc ρ' → RO acc ρ') ∧
    ∀ i d acc ρ', ds[i]? = some d → I i acc ρ' → wGc g vs d ρ' fun ρ2 => wT tt ρ2 fun b ρ3 => if b = true then wE te ρ3 (fun e ρ4 => acc.length < sizeLine ∧ I (i + 1) (acc ++ [e]) (wipeR ρ4 vs)) else I (i + 1) acc (wipeR ρ3 vs)) :
    wO (tLc wi g tt te vs) ρ RO := fun B G H σ K Q q => h B G H σ K _ fun J G1 H1 ρ1 ds S1 ⟨I, i0, fin, turn⟩ it D hD => by
  have hno1 : ∀ j ∈ vs, ρ1[j]? = some .no := fun j hj => (S1.es j _ (fun g z => by cases z)).mp (hno j hj)
  obtain ⟨gD, h0D, γD, ownD⟩ := S1.ok.free0 hD
  let st : Nat → Hp → Prop := fun i H' => ∃ G' ρ' av ad, Stp B σ ρ1 G1 H1 G' H' ρ' ∧ H' D = some (.lst av) ∧ G' D = none ∧ DdAll G' av ad ∧ I i ad ρ' ∧ ∀ j ∈ vs, ρ'[j]? = some .no
  refine ⟨fun i m H' => m = ds.length - i ∧ i ≤ ds.length ∧ st i H', ⟨_, rfl, Nat.zero_le _, G1, ρ1, [], [], (Stp.laid S1.ok hD), upd_same, gD, .nil, i0, hno1⟩, fun i m H' ⟨em, hi, G', ρ', av, ad, S, hv, hg, da, inv, no'⟩ => ?_⟩
  by_cases z : i = ds.length
  · subst z
    refine .inl ⟨(it G' H' S.ex S.ok.gh _).1 (Nat.le_refl _), ?_⟩
    have hf : H D = none := by
      cases y : H D with
      | none => rfl
      | some u =>
        rw [S1.fr D u y γD] at hD
        cases hD
    exact q D av G' H' ρ' ad (S1.trans S) (fin _ _ inv) hv hg hf h0D (S.ow ownD) da
  · have hlt : i < ds.length := by omega
    have hd : ds[i]? = some ds[i] := List.getElem?_eq_getElem hlt
    obtain ⟨go, yl⟩ := (it G' H' S.ex S.ok.gh i).2 _ hd
    refine .inr ⟨go, st (i + 1), fun H2 h2 => ⟨ds.length - (i + 1), by omega, rfl, by omega, h2⟩, fun x H2 y => ?_⟩
    obtain ⟨G2, S2, d2⟩ := (yl x H2 y).stp S.ok
    refine turn i _ ad ρ' hd inv B G2 H2 σ x S2.ok d2 _ fun σ2 ρ2 w2 K2 out2 r2 => ⟨w2, ?_⟩
    have keep : ∀ {G3 H3 ρ3}, Stp B σ2 ρ2 G2 H2 G3 H3 ρ3 → Stp B σ ρ1 G1 H1 G3 H3 (wipeR ρ3 vs) ∧ H3 D = some (.lst av) ∧ G3 D = none ∧ DdAll G3 av ad ∧ ∀ j ∈ vs, (wipeR ρ3 vs)[j]? = some .no := fun {G3 H3 ρ3} S3 => by
      have T := S2.trans (Stp.leave S2.ok no' w2 out2 S3)
      refine ⟨S.trans T, T.fr D _ hv γD, ?_, da.mono T.ex, fun j hj => ?_⟩
      · cases y : G3 D with
        | none => rfl
        | some u =>
          have := T.nw D u y hg
          rw [hv] at this
          cases this
      · refine wipeR_in ?_ hj
        have := T.ok.len
        rw [wipeR_len] at this
        rw [← this, S.ok.len]
        exact (List.getElem?_eq_some_iff.mp (no' j hj)).1
    refine r2 B G2 H2 σ2 K2 _ fun b G3 H3 ρ3 S3 r3 => ?_
    cases b with
    | false =>
      rw [if_neg Bool.false_ne_true] at r3 ⊢
      obtain ⟨T, a1, a2, a3, a4⟩ := keep S3
      exact ⟨G3, wipeR ρ3 vs, av, ad, T, a1, a2, a3, r3, a4⟩
    | true =>
      rw [if_pos rfl] at r3 ⊢
      refine r3 B G3 H3 σ2 S3.ok _ fun v G4 H4 ρ4 e S4 ⟨hz, r4⟩ d4 => ?_
      obtain ⟨T, a1, a2, a3, a4⟩ := keep (S3.trans S4)
      exact ⟨av, a1, by rw [da.length]; exact hz, G4, wipeR ρ4 vs, av ++ [v], ad ++ [e], Stp.poke S1.ok T hD a2, upd_same, a2, a3.append (.cons d4 .nil), r4, a4⟩
theorem w_lc (hno : ∀ j ∈ vs, ρ[j]? = some .no) (h : wI wi ρ fun ds ρ1 => ∃ I : Nat → List PyData → Rho → Prop, I 0 [] ρ1 ∧ (∀ acc ρ', I ds.length acc ρ' → R (.list acc) ρ') ∧
    ∀ i d acc ρ', ds[i]? = some d → I i acc ρ' → wGc g vs d ρ' fun ρ2 => wT tt ρ2 fun b ρ3 => if b = true then wE te ρ3 (fun e ρ4 => acc.length < sizeLine ∧ I (i + 1) (acc ++ [e]) (wipeR ρ4 vs)) else I (i + 1) acc (wipeR ρ3 vs)) :
    wE (tLc wi g tt te vs) ρ R := (wO_lc (RO := fun ds ρ1 => R (.list ds) ρ1) hno h).fr fun _ _ r => r
theorem w_yes {RT : Bool → Rho → Prop} (r : RT true ρ) : wT tYes ρ RT := fun B G H σ K Q q => q true G H ρ (Stp.refl K) r
/-- a map: each item by itself, nothing drawn -/
theorem wO_map {j : Nat} {ds es : List PyData} (hno : ρ[j]? = some .no) (hz : ds.length ≤ sizeLine) (hl : es.length = ds.length)
    (hi : wI wi ρ fun ds' ρ1 => ds' = ds ∧ ρ1 = ρ) (he : ∀ (i : Nat) (d e : PyData), ds[i]? = some d → es[i]? = some e → wE te (ρ.set j (.dat d)) fun e' ρ' => e' = e ∧ ρ' = ρ.set j (.dat d)) (r : RO es ρ) : wO (tLc wi (gName j) tYes te [j]) ρ RO := by
  have hb : (ρ.set j .no) = ρ := by
    refine List.ext_getElem? fun k => ?_
    by_cases z : j = k
    · subst z
      rw [List.getElem?_set_self (List.getElem?_eq_some_iff.mp hno).1, hno]
    · rw [List.getElem?_set_ne z]
  refine wO_lc (fun k hk => ?_) fun B G H σ K RR q => hi B G H σ K RR fun J G' H' ρ' ds' S ⟨e1, e2⟩ it => q J G' H' ρ' ds' S ?_ it
  · rw [List.mem_singleton.mp hk]
    exact hno
  · subst ds'
    subst ρ'
    refine ⟨fun i acc ρ' => acc = es.take i ∧ ρ' = ρ, ⟨by simp, rfl⟩, fun acc ρ' ⟨a, b⟩ => ?_, fun i d acc ρ' hd ⟨a, b⟩ => ?_⟩
    · rw [a, b, ← hl, List.take_length]
      exact r
    · subst ρ'
      refine gc_name (w_yes ?_)
      have il : i < ds.length := (List.getElem?_eq_some_iff.mp hd).1
      have he' : es[i]? = some es[i] := List.getElem?_eq_getElem (by rw [hl]; exact il)
      rw [if_pos rfl]
      refine (he i d _ hd he').imp fun e' ρ2 ⟨a1, a2⟩ => ?_
      subst e'
      subst ρ2
      refine ⟨?_, ?_, ?_⟩
      · rw [a, List.length_take]
        omega
      · rw [a, List.take_succ, he']
        rfl
      · show (ρ.set j _).set j .no = ρ
        rw [List.set_set, hb]
theorem w_map {j : Nat} {ds es : List PyData} (hno : ρ[j]? = some .no) (hz : ds.length ≤ sizeLine) (hl : es.length = ds.length)
    (hi : wI wi ρ fun ds' ρ1 => ds' = ds ∧ ρ1 = ρ) (he : ∀ (i : Nat) (d e : PyData), ds[i]? = some d → es[i]? = some e → wE te (ρ.set j (.dat d)) fun e' ρ' => e' = e ∧ ρ' = ρ.set j (.dat d)) (r : R (.list es) ρ) : wE (tLc wi (gName j) tYes te [j]) ρ R :=
  (wO_map (RO := fun ds ρ1 => R (.list ds) ρ1) hno hz hl hi he r).fr fun _ _ r => r
end
end DL

namespace DL
open PySem PySem.Spec PyProof.Rows L2 ErX
open Evl (Ex)
/-! ### a def that may raise an own error with a value -/
abbrev BadT := List PyData → Addr → PyData → Prop
def spR (n : Nat) (Pre : List PyData → Prop) (Post : List PyData → PyData → Prop) (Bad : BadT) : Sp := fun vs H Q E => ∃ (G : Hp) (ds : List PyData), Ex G H ∧ DdAll G vs ds ∧ ds.length = n ∧ Pre ds ∧
  (∀ v G' H' d, Ex H H' → Ex G G' → Ex G' H' → New G G' H → Post ds d → Dd G' v d → Q v H') ∧
  ∀ C x v e G' H', Ex H H' → Ex G G' → Ex G' H' → New G G' H → Bad ds C x → Dd G' v x → H' e = none → E (.ref C) (some e) (upd H' e (.xd [("value", v)]))
theorem spR_len {n : Nat} {Pre : List PyData → Prop} {Post : List PyData → PyData → Prop} {Bad : BadT} {ps : List Str} (hp : ps.length = n) : ∀ vs H Q E, spR n Pre Post Bad vs H Q E → vs.length = ps.length := fun vs H Q E ⟨G, ds, _, h, l, _⟩ => by rw [h.length, l, hp]
/-- what the def hands on when it raises -/
def ErrFor (B : Bs) (G : Hp) (W : WX) (Bad : Addr → PyData → Prop) : Prop := ∀ C x v e G' H' σ' ρ', Ok B G' H' σ' ρ' → Ex G G' → Bad C x → Dd G' v x → H' e = none → W (.ref C) (some e) σ' (upd H' e (.xd [("value", v)]))
def wX (W : WX) (Bad : Addr → PyData → Prop) (ts : TS) (ρ : Rho) (P : Po) : Prop := ∀ B G H σ, Ok B G H σ ρ → ∀ D : L2.Ends, Ends.For B G P D → ErrFor B G W Bad → ts D σ H
section
variable {W : WX} {Bad : Addr → PyData → Prop} {ρ : Rho} {P : Po} {t u : TS} {tt : TT} {te : TE} {ta : TA} {n : Nat}
theorem ErrFor.mono {B : Bs} {G G' : Hp} (F : ErrFor B G W Bad) (e : Ex G G') : ErrFor B G' W Bad := fun C x v e' G2 H2 σ' ρ' K a b c d => F C x v e' G2 H2 σ' ρ' K (e.trans a) b c d
theorem x_of (h : wS t ρ P) : wX W Bad t ρ P := fun B G H σ K D F _ => h B G H σ K D F
theorem x_seq (h : wX W Bad t ρ { P with nx := fun ρ1 => wX W Bad u ρ1 P }) : wX W Bad (tSeq t u) ρ P := fun B G H σ K D F X => h B G H σ K { D with nx := u D } ⟨fun G1 H1 σ1 ρ1 K1 e1 r1 => r1 B G1 H1 σ1 K1 D (F.mono e1) (X.mono e1), F.rt, F.bk, F.ct⟩ X
theorem x_if (h : wT tt ρ fun b ρ1 => if b = true then wX W Bad t ρ1 P else wX W Bad u ρ1 P) : wX W Bad (tIfS tt t u) ρ P := fun B G H σ K D F X => h B G H σ K _ fun b G1 H1 ρ1 S r => by
  cases b with
  | true =>
    rw [if_pos rfl] at r ⊢
    exact r B G1 H1 σ S.ok D (F.mono S.ex) (X.mono S.ex)
  | false =>
    rw [if_neg Bool.false_ne_true] at r ⊢
    exact r B G1 H1 σ S.ok D (F.mono S.ex) (X.mono S.ex)
theorem x_raise {C : Addr} (h : wA ta ρ fun ds _ => ∃ x, ds = [x] ∧ Bad C x) : wX W Bad (tRaiseE C W ta) ρ P := fun B G H σ K D F X => h B G H σ K _ fun vs G1 H1 ρ1 ds S ⟨x, e, b⟩ d1 => by
  subst e
  obtain ⟨v, rfl, dv⟩ := d1.one
  exact ⟨v, rfl, fun d hd => X C x v d G1 H1 σ ρ1 S.ok S.ex b dv hd⟩
/-- a call as a statement that may raise -/
theorem x_call {Pre : List PyData → Prop} {Post : List PyData → PyData → Prop} {BadF : BadT} {E : XK} (hW : W = fun cls d _ H => E cls d H) (h : wA ta ρ fun ds ρ1 => ds.length = n ∧ Pre ds ∧ (∀ d, Post ds d → P.nx ρ1) ∧ ∀ C x, BadF ds C x → Bad C x) : wX W Bad (tDrop (tCall (spR n Pre Post BadF) [] E ta)) ρ P := fun B G H σ K D F X =>
  h B G H σ K _ fun vs G1 H1 ρ1 ds S ⟨l, p, r, b⟩ d1 => by
    show spR n Pre Post BadF (vs ++ []) H1 _ E
    rw [List.append_nil]
    refine ⟨G1, ds, S.ok.gh, d1, l, p, fun v G2 H2 d a1 a2 a3 a4 hp hd => ?_, fun C x v e G2 H2 a1 a2 a3 a4 hb hd hn => ?_⟩
    · have S2 := S.trans (Stp.step S.ok a1 a2 a3 a4)
      exact F.nx G2 H2 σ ρ1 S2.ok S2.ex (r d hp)
    · have S2 := S.trans (Stp.step S.ok a1 a2 a3 a4)
      have := X C x v e G2 H2 σ ρ1 S2.ok S2.ex (b C x hb) hd hn
      rw [hW] at this
      exact this
/-- a call that does not raise, though it might -/
theorem w_callR {R : PyData → Rho → Prop} {Pre : List PyData → Prop} {Post : List PyData → PyData → Prop} {BadF : BadT} {E : XK} (h : wA ta ρ fun ds ρ1 => ds.length = n ∧ Pre ds ∧ (∀ C x, ¬ BadF ds C x) ∧ ∀ d, Post ds d → R d ρ1) : wE (tCall (spR n Pre Post BadF) [] E ta) ρ R := fun B G H σ K Q q => h B G H σ K _ fun vs G1 H1 ρ1 ds S1 ⟨l, p, nb, r⟩ d1 => by
  show spR n Pre Post BadF (vs ++ []) H1 Q E
  rw [List.append_nil]
  exact ⟨G1, ds, S1.ok.gh, d1, l, p, fun v G2 H2 d a1 a2 a3 a4 hp hd => q v G2 H2 ρ1 d (S1.trans (Stp.step S1.ok a1 a2 a3 a4)) (r d hp) hd, fun C x v e G2 H2 a1 a2 a3 a4 hb hd hn => absurd hb (nb C x)⟩
end
/-! ### bodies -/
def rho0 (ds : List PyData) (k : Nat) : Rho := ds.map Ent.dat ++ List.replicate k .no
theorem rho0_get {G : Hp} {H : Hp} {B : Bs} {vs : List V} {ds : List PyData} {k : Nat} (h : DdAll G vs ds) : ∀ (i : Nat) (e : Ent) (s : Option V), (rho0 ds k)[i]? = some e → (vs.map some ++ List.replicate k none)[i]? = some s → EntOk B G H e s := fun i e s h1 h2 => by
  unfold rho0 at h1
  rw [List.getElem?_append] at h1 h2
  rw [List.length_map] at h1 h2
  by_cases z : i < ds.length
  · rw [if_pos z] at h1
    rw [if_pos (by rw [h.length]; exact z)] at h2
    rw [List.getElem?_map] at h1 h2
    cases q : ds[i]? with
    | none =>
      rw [q] at h1
      cases h1
    | some d =>
      rw [q] at h1
      cases h1
      obtain ⟨v, q1, q2⟩ := h.getd q
      rw [q1] at h2
      cases h2
      exact ⟨v, rfl, q2⟩
  · rw [if_neg z] at h1
    have := List.mem_of_getElem? h1
    rw [List.mem_replicate] at this
    rw [this.2]
    trivial
theorem rho0_own {ds : List PyData} {k i : Nat} {e : Ent} (h : (rho0 ds k)[i]? = some e) : ∀ dj, e ≠ .own dj := fun dj z => by
  have := List.mem_of_getElem? h
  unfold rho0 at this
  rcases List.mem_append.mp this with q | q
  · obtain ⟨d, _, q⟩ := List.mem_map.mp q
    rw [z] at q
    cases q
  · rw [List.mem_replicate] at q
    rw [z] at q
    cases q.2
theorem ok_start {G H : Hp} {N : List Str} {vs : List V} {ds : List PyData} {n k : Nat} (hN : N.length = n + k) (g : Ex G H) (h : DdAll G vs ds) (hl : ds.length = n) : Ok ⟨none, G, H⟩ G H (L2.start N vs) (rho0 ds k) := by
  have e : L2.start N vs = vs.map some ++ List.replicate k none := by
    unfold L2.start
    rw [hN, h.length, hl, Nat.add_sub_cancel_left]
  rw [e]
  refine ⟨Ex.refl G, g, fun a o q1 q2 => ?_, fun a o q _ => q, fun a q => (by cases q), ?_, rho0_get h, fun i j di dj a q1 _ _ _ => absurd rfl (rho0_own q1 di)⟩
  · have q2 : G a = none := q2
    rw [q2] at q1
    cases q1
  · unfold rho0
    rw [List.length_append, List.length_append, List.length_map, List.length_map, List.length_replicate, List.length_replicate, h.length]
theorem new_of {B : Bs} {G' H' : Hp} {σ' : L2.St} {ρ' : Rho} (K : Ok B G' H' σ' ρ') : New B.G0 G' B.H0 := fun a o q1 q2 => K.nw a o q1 q2
theorem body_D {n k : Nat} {Pre : List PyData → Prop} {Post : List PyData → PyData → Prop} {N : List Str} {t : TS} (hN : N.length = n + k) (hw : ∀ ds, ds.length = n → Pre ds → wS t (rho0 ds k) ⟨fun _ => Post ds .none, fun d _ => Post ds d, fun _ => False, fun _ => False⟩) :
    ∀ vs H Q E, spD n Pre Post vs H Q E → t { nx := fun _ H' => Q .non H', rt := Q } (L2.start N vs) H := fun vs H Q E ⟨G, ds, g, h, l, p, q⟩ => by
  refine hw ds l p ⟨none, G, H⟩ G H _ (ok_start hN g h l) _ ⟨fun G' H' σ' ρ' K e r => ?_, fun v G' H' σ' ρ' d K e r hd => ?_, fun _ _ _ _ _ _ r => r, fun _ _ _ _ _ _ r => r⟩
  · exact q .non G' H' .none (fun a o z => K.kp a o z (by intro z; cases z)) e K.gh (new_of K) r .non
  · exact q v G' H' d (fun a o z => K.kp a o z (by intro z; cases z)) e K.gh (new_of K) r hd
theorem body_R {n k : Nat} {Pre : List PyData → Prop} {Post : List PyData → PyData → Prop} {Bad : BadT} {N : List Str} {t : TS} {E : XK} (hN : N.length = n + k) (hw : ∀ ds, ds.length = n → Pre ds → wX (fun cls d _ H => E cls d H) (Bad ds) t (rho0 ds k) ⟨fun _ => Post ds .none, fun d _ => Post ds d, fun _ => False, fun _ => False⟩) :
    ∀ vs H Q, spR n Pre Post Bad vs H Q E → t { nx := fun _ H' => Q .non H', rt := Q } (L2.start N vs) H := fun vs H Q ⟨G, ds, g, h, l, p, q, x⟩ => by
  refine hw ds l p ⟨none, G, H⟩ G H _ (ok_start hN g h l) _ ⟨fun G' H' σ' ρ' K e r => ?_, fun v G' H' σ' ρ' d K e r hd => ?_, fun _ _ _ _ _ _ r => r, fun _ _ _ _ _ _ r => r⟩ fun C y v e G' H' σ' ρ' K ex b hd hn => ?_
  · exact q .non G' H' .none (fun a o z => K.kp a o z (by intro z; cases z)) e K.gh (new_of K) r .non
  · exact q v G' H' d (fun a o z => K.kp a o z (by intro z; cases z)) e K.gh (new_of K) r hd
  · exact x C y v e G' H' (fun a o z => K.kp a o z (by intro z; cases z)) ex K.gh (new_of K) b hd hn
theorem body_G {n k : Nat} {Pre : Int × Int × Int → List PyData → Prop} {Post : Int × Int × Int → List PyData → PyData → Int × Int × Int → Prop} {N : List Str} {t : TS} (hN : N.length = n + 1 + k)
    (hw : ∀ g ds, ds.length = n → Pre g ds → wS t (.gen g :: rho0 ds k) ⟨fun _ => False, fun d ρ' => ∃ g', ρ'[0]? = some (.gen g') ∧ Post g ds d g', fun _ => False, fun _ => False⟩) :
    ∀ vs H Q E, spG n Pre Post vs H Q E → t { nx := fun _ H' => Q .non H', rt := Q } (L2.start N vs) H := fun vs H Q E ⟨γ, us, G, g, ds, ev, gg, gn, hg, h, l, p, q⟩ => by
  subst ev
  have e : L2.start N (.ref γ :: us) = some (.ref γ) :: (us.map some ++ List.replicate k none) := by
    unfold L2.start
    rw [hN, List.length_cons, h.length, l, Nat.add_sub_cancel_left]
    rfl
  rw [e]
  have K0 : Ok ⟨some γ, G, H⟩ G H (some (.ref γ) :: (us.map some ++ List.replicate k none)) (.gen g :: rho0 ds k) := by
    refine ⟨Ex.refl G, gg, fun a o q1 q2 => ?_, fun a o q _ => q, fun a q => ?_, ?_, fun i e s e1 e2 => ?_, fun i j di dj a q1 _ _ _ => ?_⟩
    · have q2 : G a = none := q2
      rw [q2] at q1
      cases q1
    · cases q
      exact ⟨gn, ⟨_, hg⟩, _, hg⟩
    · unfold rho0
      rw [List.length_cons, List.length_cons, List.length_append, List.length_append, List.length_map, List.length_map, List.length_replicate, List.length_replicate, h.length]
    · cases i with
      | zero =>
        cases e1
        cases e2
        exact ⟨γ, rfl, rfl, hg⟩
      | succ i => exact rho0_get h i e s e1 e2
    · cases i with
      | zero => cases q1
      | succ i => exact absurd rfl (rho0_own q1 di)
  refine hw g ds l p ⟨some γ, G, H⟩ G H _ K0 _ ⟨fun G' H' σ' ρ' K e r => r.elim, fun v G' H' σ' ρ' d K e ⟨g', r1, r2⟩ hd => ?_, fun _ _ _ _ _ _ r => r, fun _ _ _ _ _ _ r => r⟩
  obtain ⟨s, hs, a, es, ha, hg'⟩ := K.slot r1
  cases ha
  exact q v G' H' d g' (fun a o z1 z2 => K.kp a o z1 (fun z => z2 (Option.some.inj z).symm)) hg' (K.gm γ rfl).1 e K.gh (new_of K) r2 hd
end DL

namespace DL
open PySem PySem.Spec PyProof.Rows L2
open Evl (Ex)
/-! ### built-in functions -/
theorem sq_l {K : PySem.W.Frag} {G H : Hp} {a : Addr} {xs : List V} (g : Ex G H) (h : G a = some (.lst xs)) : SqL K H a xs := .inl (.inl (g _ _ h))
theorem sq_t {K : PySem.W.Frag} {G H : Hp} {a : Addr} {xs : List V} (g : Ex G H) (h : G a = some (.tup xs)) : SqT K H a xs := .inl (.inl (g _ _ h))
def rLenX (K : PySem.W.Frag) : List V → Hp → VK → Prop := fun xs H Q => (∃ p ys, xs = [.ref p] ∧ (SqL K H p ys ∨ SqT K H p ys) ∧ Q (.int ys.length) H) ∨ ∃ z, xs = [.str z] ∧ z.length ≤ sizeLine ∧ Q (.int z.length) H
theorem call_lenX {X : Cx} : CallR X (.builtin "len") (rLenX X.K) := callOr call_len_seq call_len_str
def rInt1 : List V → Hp → VK → Prop := fun xs H Q => (∃ i, xs = [.int i] ∧ Q (.int i) H) ∨ ∃ k, xs = [.bl k] ∧ Q (.int (if k then 1 else 0)) H
theorem call_intX {X : Cx} : CallR X (.type "int") rInt1 := call_int1
def rMaxX (K : PySem.W.Frag) : List V → Hp → VK → Prop := fun xs H Q => Evl.rMax2 xs H Q ∨ rMax K xs H Q
theorem call_maxX {X : Cx} (hc : X.calm = true) : CallR X (.builtin "max") (rMaxX X.K) := callOr (call_max2 hc) (cr_max hc)
section
variable {K : PySem.W.Frag} {R : PyData → Prop} {ds : List PyData} {ns : List Int} {bs : List Bool} {i j : Int} {x : Str}
theorem c_lenL (r : R (.int ds.length)) : CallW (rLenX K) [.list ds] R := CallW.flat (fun _ => .int _) r fun B G H σ ρ K0 vs dv Q q => by
  obtain ⟨v, rfl, hv⟩ := dv.one
  obtain ⟨a, xs, rfl, ga, da⟩ := hv.lst'
  exact .inl ⟨a, xs, rfl, .inl (sq_l K0.gh ga), by rw [da.length]; exact q⟩
theorem c_lenT (r : R (.int ds.length)) : CallW (rLenX K) [.tuple ds] R := CallW.flat (fun _ => .int _) r fun B G H σ ρ K0 vs dv Q q => by
  obtain ⟨v, rfl, hv⟩ := dv.one
  obtain ⟨a, xs, rfl, ga, da⟩ := hv.tup'
  exact .inl ⟨a, xs, rfl, .inr (sq_t K0.gh ga), by rw [da.length]; exact q⟩
theorem c_lenS (hz : x.length ≤ sizeLine) (r : R (.int x.length)) : CallW (rLenX K) [.str x] R := CallW.flat (fun _ => .int _) r fun B G H σ ρ K0 vs dv Q q => by
  obtain ⟨v, rfl, hv⟩ := dv.one
  exact .inr ⟨x, by rw [hv.str'], hz, q⟩
theorem c_int (r : R (.int i)) : CallW rInt1 [.int i] R := CallW.flat (fun _ => .int _) r fun B G H σ ρ K0 vs dv Q q => by
  obtain ⟨v, rfl, hv⟩ := dv.one
  exact .inl ⟨i, by rw [hv.int'], q⟩
theorem c_intB {b : Bool} (r : R (.int (if b then 1 else 0))) : CallW rInt1 [.bool b] R := CallW.flat (fun _ => .int _) r fun B G H σ ρ K0 vs dv Q q => by
  obtain ⟨v, rfl, hv⟩ := dv.one
  exact .inr ⟨b, by rw [hv.bl'], q⟩
theorem c_max2 (r : R (.int (if j > i then j else i))) : CallW (rMaxX K) [.int i, .int j] R := CallW.flat (fun _ => .int _) r fun B G H σ ρ K0 vs dv Q q => by
  obtain ⟨v, w, rfl, hv, hw⟩ := dv.two
  exact .inl ⟨i, j, by rw [hv.int', hw.int'], q⟩
theorem c_max (h0 : 0 < ns.length) (r : ∀ m, m ∈ ns → (∀ y, y ∈ ns → y ≤ m) → R (.int m)) : CallW (rMaxX K) [.list (ns.map .int)] R := fun B G H σ ρ K0 vs dv Q q => by
  obtain ⟨v, rfl, hv⟩ := dv.one
  obtain ⟨a, xs, rfl, ga, da⟩ := hv.lst'
  exact .inr ⟨a, ns, rfl, by rw [← da.ints]; exact sq_l K0.gh ga, h0, fun m h1 h2 => q _ _ _ _ (Stp.refl K0) (r m h1 h2) (.int _)⟩
theorem c_sum (r : R (.int ns.sum)) : CallW (rSum K) [.list (ns.map .int)] R := CallW.flat (fun _ => .int _) r fun B G H σ ρ K0 vs dv Q q => by
  obtain ⟨v, rfl, hv⟩ := dv.one
  obtain ⟨a, xs, rfl, ga, da⟩ := hv.lst'
  exact ⟨a, ns, rfl, by rw [← da.ints]; exact sq_l K0.gh ga, q⟩
theorem c_all (r : R (.bool (bs.all id))) : CallW (rAll K) [.list (bs.map .bool)] R := CallW.flat (fun _ => .bl _) r fun B G H σ ρ K0 vs dv Q q => by
  obtain ⟨v, rfl, hv⟩ := dv.one
  obtain ⟨a, xs, rfl, ga, da⟩ := hv.lst'
  exact ⟨a, bs, rfl, by rw [← da.bools]; exact sq_l K0.gh ga, q⟩
theorem c_any (r : R (.bool (bs.any id))) : CallW (rAny K) [.list (bs.map .bool)] R := CallW.flat (fun _ => .bl _) r fun B G H σ ρ K0 vs dv Q q => by
  obtain ⟨v, rfl, hv⟩ := dv.one
  obtain ⟨a, xs, rfl, ga, da⟩ := hv.lst'
  exact ⟨a, bs, rfl, by rw [← da.bools]; exact sq_l K0.gh ga, q⟩
theorem c_sorted (r : ∀ ns' : List Int, ns'.Perm ns → ns'.Pairwise (· ≤ ·) → R (.list (ns'.map .int))) : CallW (rSortedI K) [.list (ns.map .int)] R := fun B G H σ ρ K0 vs dv Q q => by
  obtain ⟨v, rfl, hv⟩ := dv.one
  obtain ⟨a, xs, rfl, ga, da⟩ := hv.lst'
  refine ⟨a, ns, rfl, by rw [← da.ints]; exact sq_l K0.gh ga, fun ns' p h1 h2 hp => ?_⟩
  have S := Stp.laidF K0 (o := .lst (ns'.map V.int)) hp
  exact q _ _ _ _ S (r ns' h1 h2) (.lst upd_same (DdAll.of_ints ns'))
theorem c_repr {d : PyData} (h1 : d.hasDict = false) (h2 : d.showable = true) (h3 : d.depth ≤ 60) (h4 : d.shown.length ≤ sizeLine) (r : R (.str d.shown)) : CallW rRepr [d] R := CallW.flat (fun _ => .str _) r fun B G H σ ρ K0 vs dv Q q => by
  obtain ⟨v, rfl, hv⟩ := dv.one
  exact ⟨G, v, d, rfl, K0.gh, hv, h1, h2, h3, h4, q⟩
/-- tuple(l), list(l): of a list or tuple -/
theorem c_tupL (r : R (.tuple ds)) : CallW (fun xs H Q => ∃ p ys, xs = [.ref p] ∧ ((SqL K H p ys ∧ ∀ l, H l = none → Q (.ref l) (upd H l (.tup ys))) ∨ (SqT K H p ys ∧ Q (.ref p) H))) [.list ds] R := fun B G H σ ρ K0 vs dv Q q => by
  obtain ⟨v, rfl, hv⟩ := dv.one
  obtain ⟨a, xs, rfl, ga, da⟩ := hv.lst'
  refine ⟨a, xs, rfl, .inl ⟨sq_l K0.gh ga, fun p hp => ?_⟩⟩
  have S := Stp.laidF K0 (o := .tup xs) hp
  exact q _ _ _ _ S r (.tup upd_same (da.mono S.ex))
end
section
variable {K : PySem.W.Frag} {ρ : Rho} {R : PyData → Rho → Prop} {RO : List PyData → Rho → Prop} {te ta tb : TE} {ts : TA} {i : Nat}
/-! isinstance(x, T), T a built-in class -/
def kindOf : PyData → String
  | .none => "NoneType"
  | .bool _ => "bool"
  | .int _ => "int"
  | .str _ => "str"
  | .list _ => "list"
  | .tuple _ => "tuple"
  | .dict _ => "dict"
theorem Dd.ty {G H : Hp} {v : V} {d : PyData} (g : Ex G H) (h : Dd G v d) : TyX K H v (.type (kindOf d)) := by
  cases h with
  | non => exact .base .non
  | bl b => exact .base (.bl b)
  | int n => exact .base (.int n)
  | str x => exact .base (.str x)
  | lst h _ => exact .base (.lst (g _ _ h))
  | tup h _ => exact .base (.tup (g _ _ h))
  | dct h => exact .base (.dK (g _ _ h))
def kindT (k n : String) : Bool := (k == n) || (k == "bool" && n == "int")
def isT (d : PyData) (n : String) : Bool := kindT (kindOf d) n
theorem kitB_all : ∀ k ∈ ["NoneType", "bool", "int", "str", "list", "tuple", "dict"], ∀ n ∈ ["int", "bool", "list", "tuple", "str", "dict"], kitB k n = some (kindT k n) := by decide +kernel
theorem kitB_is (d : PyData) (n : String) (h : n = "int" ∨ n = "bool" ∨ n = "list" ∨ n = "tuple" ∨ n = "str" ∨ n = "dict") : kitB (kindOf d) n = some (isT d n) :=
  kitB_all _ (by cases d <;> simp [kindOf]) n (by simpa using h)
theorem w_isi {n : String} (hn : n = "int" ∨ n = "bool" ∨ n = "list" ∨ n = "tuple" ∨ n = "str" ∨ n = "dict") (h : wE te ρ fun d ρ1 => R (.bool (isT d n)) ρ1) : wE (tCB (rIsi K) (tCons te (tCons (tC (.ty n)) tNil))) ρ R := fun B G H σ K0 Q q => h B G H σ K0 _ fun v G1 H1 ρ1 d S r d1 =>
  ⟨v, .ty n, .type (kindOf d), .type n, _, rfl, .ty n, d1.ty S.ok.gh, kit_ty (kitB_is d n hn), q _ G1 H1 ρ1 _ S r (.bl _)⟩
/-! n.bit_length(), list(range(..)), slices, l[::-1] -/
theorem w_bits (h : wE te ρ fun d ρ1 => ∃ n, d = .int n ∧ R (.int (Builtin.Int.intBits n : Nat)) ρ1) : wE (tBits te) ρ R := fun B G H σ K0 Q q => h B G H σ K0 _ fun v G1 H1 ρ1 d S ⟨n, e, r⟩ d1 => by
  subst e
  exact ⟨n, d1.int', q _ G1 H1 ρ1 _ S r (.int _)⟩
theorem rgV_dd (G : Hp) (a b : Int) : DdAll G (rgV a b) (rngD a (b - a).toNat) := by
  unfold rgV rngD
  induction List.range (b - a).toNat with
  | nil => exact .nil
  | cons n l ih => exact .cons (.int _) ih
theorem wO_lstRg1 (h : wE te ρ fun d ρ1 => ∃ n : Int, d = .int n ∧ RgOk 0 n ∧ RO (rngD 0 n.toNat) ρ1) : wO (tLstRg (tRg1 te)) ρ RO := wO_of_new fun B G H σ K0 Q q => h B G H σ K0 _ fun v G1 H1 ρ1 d S ⟨n, e, hr, r⟩ d1 => by
  subst e
  refine ⟨n, d1.int', hr, q _ G1 H1 ρ1 _ S r ?_⟩
  have := rgV_dd G1 0 n
  rw [Int.sub_zero] at this
  exact this
theorem w_lstRg1 (h : wE te ρ fun d ρ1 => ∃ n : Int, d = .int n ∧ RgOk 0 n ∧ R (.list (rngD 0 n.toNat)) ρ1) : wE (tLstRg (tRg1 te)) ρ R := (wO_lstRg1 (RO := fun ds ρ1 => R (.list ds) ρ1) h).fr fun _ _ r => r
/-- a bound of a slice -/
def wB (to : TO) (ρ : Rho) (RB : Option Int → Rho → Prop) : Prop := ∀ B G H σ, Ok B G H σ ρ → ∀ Q : Option Int → Hp → Prop, (∀ x G' H' ρ', Stp B σ ρ G H G' H' ρ' → RB x ρ' → Q x H') → to σ H Q
theorem b_no {RB : Option Int → Rho → Prop} (r : RB none ρ) : wB tNoPart ρ RB := fun B G H σ K0 Q q => q none G H ρ (Stp.refl K0) r
theorem b_at {RB : Option Int → Rho → Prop} (h : wE te ρ fun d ρ1 => ∃ n, d = .int n ∧ RB (some n) ρ1) : wB (tPart te) ρ RB := fun B G H σ K0 Q q => h B G H σ K0 _ fun v G1 H1 ρ1 d S ⟨n, e, r⟩ d1 => by
  subst e
  exact ⟨n, d1.int', q _ G1 H1 ρ1 S r⟩
def cutD (xs : List PyData) (lo hi : Option Int) : List PyData := (xs.drop (HT.sIx xs.length 0 lo)).take (HT.sIx xs.length xs.length hi - HT.sIx xs.length 0 lo)
theorem DdAll.cut {G : Hp} {vs : List V} {ds : List PyData} (h : DdAll G vs ds) (lo hi : Option Int) : DdAll G (cutV vs lo hi) (cutD ds lo hi) := by
  unfold cutV cutD
  rw [h.length]
  exact (h.drop _).take _
theorem wO_sl {tl th : TO} (h : wE te ρ fun d ρ1 => wB tl ρ1 fun lo ρ2 => wB th ρ2 fun hi ρ3 => ∃ ds, d = .list ds ∧ RO (cutD ds lo hi) ρ3) : wO (L2.tSl (rSlL K) te tl th) ρ RO := wO_of_new fun B G H σ K0 Q q =>
  h B G H σ K0 _ fun v G1 H1 ρ1 d S1 r1 d1 => r1 B G1 H1 σ S1.ok _ fun lo G2 H2 ρ2 S2 r2 => r2 B G2 H2 σ S2.ok _ fun hi G3 H3 ρ3 S3 ⟨ds, e, r⟩ => by
    subst e
    obtain ⟨a, xs, rfl, ga, da⟩ := (d1.mono (S2.ex.trans S3.ex)).lst'
    exact ⟨a, xs, rfl, sq_l S3.ok.gh ga, q _ G3 H3 ρ3 _ ((S1.trans S2).trans S3) r (da.cut lo hi)⟩
theorem w_sl {tl th : TO} (h : wE te ρ fun d ρ1 => wB tl ρ1 fun lo ρ2 => wB th ρ2 fun hi ρ3 => ∃ ds, d = .list ds ∧ R (.list (cutD ds lo hi)) ρ3) : wE (L2.tSl (rSlL K) te tl th) ρ R := (wO_sl (RO := fun ds ρ1 => R (.list ds) ρ1) h).fr fun _ _ r => r
theorem wO_rev (h : wE te ρ fun d ρ1 => ∃ ds, d = .list ds ∧ RO ds.reverse ρ1) : wO (tRevL K te) ρ RO := wO_of_new fun B G H σ K0 Q q => h B G H σ K0 _ fun v G1 H1 ρ1 d S ⟨ds, e, r⟩ d1 => by
  subst e
  obtain ⟨a, xs, rfl, ga, da⟩ := d1.lst'
  exact ⟨a, xs, rfl, sq_l S.ok.gh ga, q _ G1 H1 ρ1 _ S r da.reverse⟩
theorem w_rev (h : wE te ρ fun d ρ1 => ∃ ds, d = .list ds ∧ R (.list ds.reverse) ρ1) : wE (tRevL K te) ρ R := (wO_rev (RO := fun ds ρ1 => R (.list ds) ρ1) h).fr fun _ _ r => r
/-! l.index(x), l.count(x) -/
mutual
theorem Dd.dp {G H : Hp} (g : Ex G H) : ∀ {v : V} {d : PyData}, d.hasDict = false → Dd G v d → Dp K H v d
  | _, _, _, .non => .non
  | _, _, _, .bl b => .bl b
  | _, _, _, .int n => .int n
  | _, _, _, .str x => .str x
  | _, _, n, .lst h a => .lst (sq_l g h) (DdAll.dp g (by simpa [PyData.hasDict] using n) a)
  | _, _, n, .tup h a => .tup (sq_t g h) (DdAll.dp g (by simpa [PyData.hasDict] using n) a)
  | _, _, n, .dct h => by simp [PyData.hasDict] at n
theorem DdAll.dp {G H : Hp} (g : Ex G H) : ∀ {vs : List V} {ds : List PyData}, PyData.hasDictAll ds = false → DdAll G vs ds → DpAll K H vs ds
  | _, _, _, .nil => .nil
  | _, _, n, .cons h t => by
    simp only [PyData.hasDictAll, Bool.or_eq_false_iff] at n
    exact .cons (Dd.dp g n.1 h) (DdAll.dp g n.2 t)
end
theorem w_index (h : wE ta ρ fun d ρ1 => ∃ ds, d = .list ds ∧ wE tb ρ1 fun y ρ2 => ∃ (j : Nat) (z : PyData), SeqAt.shaped (.list ds) = true ∧ SeqAt.shaped y = true ∧ ds[j]? = some z ∧ PyData.eqv z y = true ∧ (∀ (m : Nat) (z' : PyData), m < j → ds[m]? = some z' → PyData.eqv z' y = false) ∧ R (.int (j : Nat)) ρ2) :
    wE (tBM K "list" (rIndexD K) ta (tCons tb tNil)) ρ R := fun B G H σ K0 Q q => h B G H σ K0 _ fun v G1 H1 ρ1 d S1 ⟨ds, e, r1⟩ d1 => by
  subst e
  obtain ⟨a, xs, rfl, ga, da⟩ := d1.lst'
  refine ⟨.inl ⟨rfl, xs, sq_l S1.ok.gh ga⟩, r1 B G1 H1 σ S1.ok _ fun w G2 H2 ρ2 y S2 ⟨j, z, sl, sd, hj, hz, hno, r⟩ d2 => ?_⟩
  have d1' := (Dd.lst ga da).mono S2.ex
  exact ⟨a, w, y, ds, j, z, rfl, rfl, Dd.dp S2.ok.gh (noDict_of_lay (SeqAt.canLay_of_shaped sl)) d1', Dd.dp S2.ok.gh (noDict_of_lay (SeqAt.canLay_of_shaped sd)) d2, sl, sd, hj, hz, hno, q _ G2 H2 ρ2 _ (S1.trans S2) r (.int _)⟩
end
/-! l.count(x): how many are equal -/
def rCountD : V → List V → Hp → VK → Prop := fun x xs H Q => ∃ (G : Hp) (a : Addr) (y : V) (d : PyData) (ds : List PyData), x = V.ref a ∧ xs = [y] ∧ Ex G H ∧ Dd G (V.ref a) (.list ds) ∧ Dd G y d ∧
  SeqAt.shaped (.list ds) = true ∧ SeqAt.shaped d = true ∧ Q (.int ((ds.countP fun z => PyData.eqv z d) : Nat)) H
section
variable {X : Cx}
theorem mt_countD (hu : X.A.units + 65 < cLine) : MtR X "list.count" rCountD := by
  intro pins s σ H x xs v us Q I rx rxs h
  obtain ⟨G, a, y, d, ds, rfl, rfl, ex, hl, hy, sl, sd, q⟩ := h
  cases rx
  cases rxs with
  | cons ry rt =>
    rename_i uy ut
    cases rt
    obtain ⟨bs, r1⟩ := Dd.reads I ex (noDict_of_lay (SeqAt.canLay_of_shaped sd)) hy ry
    have hxs : PyData.canLayAll0 ds = true := SeqAt.canLay_of_shaped sl
    have hroom : X.A.units + 1 + min (PyData.depthAll ds) d.depth < cLine := room_in_shaped sd hu
    obtain ⟨a', xs, e1, hg, ha⟩ := hl.lst'
    cases e1
    obtain ⟨its, rv, ⟨⟨cls, dd, data, sls⟩, n, ho, hc, hdn, hdt⟩, hlen⟩ := I.list (sq_l ex hg)
    simp only at hc hdt
    subst hc hdt
    obtain ⟨as, h4⟩ := Dd.readsAll I ex (noDict_of_layAll hxs) ha rv
    have hmap : its.map (SeqAt.readOf s.heap) = ds := SeqAt.readsAll_map ds its as hxs h4
    have hcnt : its.countP (fun u => PyData.eqv (SeqAt.readOf s.heap u) d) = ds.countP fun z => PyData.eqv z d := by
      rw [← hmap, List.countP_map]
      rfl
    refine call_meets PySem.F.slot_list_count ⟨_, ho, rfl⟩ PySem.F.entry_list_count (PySem.F.args_list_count_2 _ _)
      (SeqAt.list_countAt a its.toArray n dd sls uy (fun u => PyData.eqv (SeqAt.readOf s.heap u) d)) ⟨ho, SeqAt.items_eqAt (vs := its.toArray) (show ReadsAll s.heap its.toArray.toList ds as from h4) r1 hxs (SeqAt.canLay_of_shaped sd) hroom, ?_⟩
    exact ⟨.int _, H, I.tok _, ⟨_, rfl⟩, by
      have : (its.toArray.toList.countP fun u => PyData.eqv (SeqAt.readOf s.heap u) d) = ds.countP fun z => PyData.eqv z d := hcnt
      rw [this]
      exact q⟩
end
section
variable {K : PySem.W.Frag} {ρ : Rho} {R : PyData → Rho → Prop} {ta tb : TE}
theorem w_count (h : wE ta ρ fun d ρ1 => ∃ ds, d = .list ds ∧ wE tb ρ1 fun y ρ2 => SeqAt.shaped (.list ds) = true ∧ SeqAt.shaped y = true ∧ R (.int ((ds.countP fun z => PyData.eqv z y) : Nat)) ρ2) :
    wE (tBM K "list" rCountD ta (tCons tb tNil)) ρ R := fun B G H σ K0 Q q => h B G H σ K0 _ fun v G1 H1 ρ1 d S1 ⟨ds, e, r1⟩ d1 => by
  subst e
  obtain ⟨a, xs, rfl, ga, da⟩ := d1.lst'
  refine ⟨.inl ⟨rfl, xs, sq_l S1.ok.gh ga⟩, r1 B G1 H1 σ S1.ok _ fun w G2 H2 ρ2 y S2 ⟨sl, sd, r⟩ d2 => ?_⟩
  exact ⟨G2, a, w, y, ds, rfl, rfl, S2.ok.gh, (Dd.lst ga da).mono S2.ex, d2, sl, sd, q _ G2 H2 ρ2 _ (S1.trans S2) r (.int _)⟩
end
end DL

namespace DL
open PySem PySem.Spec PyProof.Rows L2
open Evl (Ex)
/-! ### the def of a name -/
/-- the name x stands for the def st -/
def FunAt (K : PySem.W.Frag) (mg : Str → Option Value) (x : Str) (st : Stmt) : Prop := ∃ f fd, Fun K x x st f fd ∧ mg x = some (.ref f)
/-- the name x stands for a def with this promise -/
def Df (P : Program) (w : World) (K : PySem.W.Frag) (mg : Str → Option Value) (base : Heap) (CX : CXT) (k : Nat) (x : Str) (ps : List Str) (dvs : List V) (sp : Sp) : Prop :=
  ∃ f fd ds, FnOk P w K mg base CX k f fd ps sp ∧ mg x = some (.ref f) ∧ PySem.W.keepIn K (.ref f) = true ∧ Binds K fd ps ds ∧ Vals dvs ds
/-- the same, called by keywords alone, in the order behind the parameters' -/
def DfR (P : Program) (w : World) (K : PySem.W.Frag) (mg : Str → Option Value) (base : Heap) (CX : CXT) (k : Nat) (x : Str) (ps : List Str) (sp : Sp) : Prop :=
  ∃ f fd, FnOk P w K mg base CX k f fd ps sp ∧ mg x = some (.ref f) ∧ PySem.W.keepIn K (.ref f) = true ∧ KBn K fd ps 0 ps.reverse (fun _ ws => ws.reverse) (fun _ zs => zs.reverse)
section
variable {X : Cx} {CX : CXT} {k j : Nat} {x : Str} {ps : List Str} {dvs : List V} {sp : Sp} {E : XK} {e : Expr} {es : List Expr} {t tk : TA} {p pos : Pos} {kws : List Keyword}
theorem pe_def (D : Df X.prog X.w X.K X.mg X.base CX k x ps dvs sp) (hr : Room j X.A) (hkj : k ≤ j) (hx : Passes CX X E) (ha : PA X (e :: es) t) (hg : Gl X x := by rfl) (hdb : (x == ("__debug__" : Str)) = false := by decide)
    (he : starEach (e :: es) X.env = (false, eval e X.env) :: starEach es X.env := by rfl) (hpl : (backTo pos (starEach es X.env)).any (·.1) = false := by rfl) : PE X (.Call (.Name x p) (e :: es) [] pos) (tCall sp dvs E t) := by
  obtain ⟨f, fd, ds, F, hm, hk, hb, hd⟩ := D
  exact pe_call F (hr.mono hkj) hg hm hk hb hd hx ha hdb he hpl
theorem pe_kws {n : Nat} {ks : List Str} {f : Addr} {fd : FuncData} {g : List Value → List Value → List Value} {gV : List V → List V → List V} (F : FnOk X.prog X.w X.K X.mg X.base CX k f fd ps sp) (hr : Room k X.A) (hg : Gl X x) (hm : X.mg x = some (.ref f)) (hk : PySem.W.keepIn X.K (.ref f) = true) (hb : KBn X.K fd ps 0 ks g gV) (hx : Passes CX X E)
    (hkw : PK X kws tk) (hall : (backToKw pos (keywordEach kws X.env)).all (·.1.isSome) = true := by rfl) (hks : (backToKw pos (keywordEach kws X.env)).filterMap (·.1) = ks := by rfl)
    (hdb : (x == ("__debug__" : Str)) = false := by decide)
    (hpl : ((backTo pos (starEach [] X.env)).any (·.1) || (backToKw pos (keywordEach kws X.env)).any (·.1.isNone)) = false := by rfl) :
    PE X (.Call (.Name x p) [] kws pos) (tCallN 0 ks.length sp gV E tNil tk) := by
  refine ⟨fun pins s σ H Q I h => ?_⟩
  refine wpAny_Call_Name_kw (ld_glob I hg hm ?_ hdb)
  refine PySem.W.callWith_KW0 (h₀ := X.base) I.ok.mod.kin hk hall ?_ hpl
  refine thn (hkw.run pos pins s σ H _ I h) fun ws s2 ⟨zs, H2, I2, rz, l1, l2, q2⟩ => ⟨I2.kIn, ?_⟩
  rw [hks]
  exact run_fnN (us := []) (vs := []) F hr hb hx I2 .nil rz rfl l2 q2
theorem pe_defK (D : DfR X.prog X.w X.K X.mg X.base CX k x ps sp) (hr : Room j X.A) (hkj : k ≤ j) (hx : Passes CX X E) (hkw : PK X kws tk) (hks : (backToKw pos (keywordEach kws X.env)).filterMap (·.1) = ps.reverse := by rfl) (hg : Gl X x := by rfl)
    (hall : (backToKw pos (keywordEach kws X.env)).all (·.1.isSome) = true := by rfl) (hdb : (x == ("__debug__" : Str)) = false := by decide)
    (hpl : ((backTo pos (starEach [] X.env)).any (·.1) || (backToKw pos (keywordEach kws X.env)).any (·.1.isNone)) = false := by rfl) :
    PE X (.Call (.Name x p) [] kws pos) (tCallN 0 ps.reverse.length sp (fun _ zs => zs.reverse) E tNil tk) := by
  obtain ⟨f, fd, F, hm, hk, hb⟩ := D
  exact pe_kws (n := 0) F (hr.mono hkj) hg hm hk hb hx hkw hall hks hdb hpl
theorem vals_rev : ∀ {vs : List V} {us : List Value}, Vals vs us → Vals vs.reverse us.reverse
  | _, _, .nil => .nil
  | _, _, .cons h t => by
    rw [List.reverse_cons, List.reverse_cons]
    exact (vals_rev t).append (.cons h .nil)
end
section
variable {ρ : Rho} {R : PyData → Rho → Prop} {P : Po} {tk : TA} {n m : Nat} {i j : Nat} {te : TE}
theorem w_defK {Pre : List PyData → Prop} {Post : List PyData → PyData → Prop} {Bad : BadT} {E : XK} (h : wA tk ρ fun ds ρ1 => ds.length = n ∧ m = n ∧ Pre ds.reverse ∧ (∀ C x, ¬ Bad ds.reverse C x) ∧ ∀ d, Post ds.reverse d → R d ρ1) :
    wE (tCallN 0 m (spR n Pre Post Bad) (fun _ zs => zs.reverse) E tNil tk) ρ R := fun B G H σ K Q q => h B G H σ K _ fun vs G1 H1 ρ1 ds S1 ⟨l, em, p, nb, r⟩ d1 =>
  ⟨rfl, by rw [d1.length, l, em], G1, ds.reverse, S1.ok.gh, d1.reverse, by rw [List.length_reverse, l], p, fun v G2 H2 d a1 a2 a3 a4 hp hd => q v G2 H2 ρ1 d (S1.trans (Stp.step S1.ok a1 a2 a3 a4)) (r d hp) hd, fun C x v e G2 H2 a1 a2 a3 a4 hb hd hn => absurd hb (nb C x)⟩
/-- two new lists of the def's own -/
theorem NotOwn.setO {B : Bs} {G H : Hp} {σ : L2.St} {p q : Addr} {ds : List PyData} (K : Ok B G H σ ρ) (h : NotOwn σ ρ p) (hq : q ≠ p) : NotOwn (σ.set i (some (.ref q))) (ρ.set i (.own ds)) p := fun m dm e => by
  by_cases z : i = m
  · subst z
    have hj : i < ρ.length := by
      have := (List.getElem?_eq_some_iff.mp e).1
      simpa using this
    rw [List.getElem?_set_self (by rw [K.len]; exact hj)]
    exact fun y => hq (by
      have := Option.some.inj (Option.some.inj y)
      cases this
      rfl)
  · rw [List.getElem?_set_ne z] at e ⊢
    exact h m dm e
theorem s_parOO {tb : TE} (h : wO te ρ fun ds ρ1 => wO tb ρ1 fun es ρ2 => P.nx ((ρ2.set i (.own ds)).set j (.own es))) : wS (tPar i j (tCons te (tCons tb tNil))) ρ P := fun B G H σ K D F => h B G H σ K _ fun p xs G1 H1 ρ1 ds S r hp hg hf h0 hn d1 => r B G1 H1 σ S.ok _ fun p2 xs2 G2 H2 ρ2 es S2 r2 hp2 hg2 hf2 h02 hn2 d2 => by
  have pγ : B.gp ≠ some p := (K.free0 hf).2.2.1
  have hp' : H2 p = some (.lst xs) := S2.fr p _ hp pγ
  have hg' : G2 p = none := by
    cases y : G2 p with
    | none => rfl
    | some u =>
      have := S2.nw p u y hg
      rw [hp] at this
      cases this
  have ne : p ≠ p2 := fun z => by
    rw [z, hf2] at hp
    cases hp
  have hn' : NotOwn σ ρ2 p := S2.ow hn
  refine ⟨.ref p, .ref p2, rfl, F.nx G2 H2 _ _ ?_ (S.ex.trans S2.ex) r2⟩
  have K1 := S2.ok.setO (i := i) hp' hg' h0 hn' (d1.mono S2.ex)
  exact K1.setO hp2 hg2 h02 (hn2.setO S2.ok ne) d2
end
/-- a def that has its body's reading -/
theorem df_of {P : Program} {w : World} {K : PySem.W.Frag} {mg : Str → Option Value} {base : Heap} {x : Str} {st : Stmt} {N ps : List Str} {k : Nat} {sp : Sp} (F : FunAt K mg x st) (S : FnScope N ps (defScope st)) (len : ∀ vs H Q E, sp vs H Q E → vs.length = ps.length)
    (hb : ∀ (oc : Value) (kV doc pm : Value) (an : Option Addr) (cdv ct : Value) (us : List Value), us.length = ps.length → bindArgs (PySem.W.fnOf x x (defArgs st) (defBody st) (defScope st) .none kV doc pm an cdv ct) ⟨us, []⟩ = pure (ps.zip us))
    (hbody : ∀ (f : Addr) (cdv : Value) (A : Around) (outer : List Env) (s : Shared) (H : Hp) (E : XK), Room k (A.deeper (envOfC x (defScope st) s.heap.objs.size f cdv)) →
      ∃ t, PSs (cxOf CX0 P w K mg base N x (defScope st) f cdv A outer s H E).nox (defBody st) t ∧ ∀ vs Q, sp vs H Q E → t { nx := fun _ H' => Q .non H', rt := Q } (L2.start N vs) H) : Df P w K mg base CX0 (k + 1) x ps [] sp := by
  obtain ⟨f, fd, F, hm⟩ := F
  refine ⟨f, fd, [], F.ok S len fun cdv A outer s H vs Q E hr hs => ?_, hm, F.kp, F.binds (ps := ps) (hb .none), .nil⟩
  obtain ⟨t, h1, h2⟩ := hbody f cdv A outer s H E hr
  exact ⟨t, h1, h2 vs Q hs⟩
/-- the same for a def that may raise -/
theorem dfx_of {P : Program} {w : World} {K : PySem.W.Frag} {mg : Str → Option Value} {base : Heap} {x : Str} {st : Stmt} {N ps : List Str} {k : Nat} {sp : Sp} (F : FunAt K mg x st) (S : FnScope N ps (defScope st)) (len : ∀ vs H Q E, sp vs H Q E → vs.length = ps.length)
    (hb : ∀ (oc : Value) (kV doc pm : Value) (an : Option Addr) (cdv ct : Value) (us : List Value), us.length = ps.length → bindArgs (PySem.W.fnOf x x (defArgs st) (defBody st) (defScope st) .none kV doc pm an cdv ct) ⟨us, []⟩ = pure (ps.zip us))
    (hbody : ∀ (f : Addr) (cdv : Value) (A : Around) (outer : List Env) (s : Shared) (H : Hp) (E : XK), Room k (A.deeper (envOfC x (defScope st) s.heap.objs.size f cdv)) →
      ∃ t, PSs (cxOf (L2.CX P w) P w K mg base N x (defScope st) f cdv A outer s H E) (defBody st) t ∧ ∀ vs Q, sp vs H Q E → t { nx := fun _ H' => Q .non H', rt := Q } (L2.start N vs) H) : Df P w K mg base (L2.CX P w) (k + 1) x ps [] sp := by
  obtain ⟨f, fd, F, hm⟩ := F
  refine ⟨f, fd, [], F.okX S len fun cdv A outer s H vs Q E hr hs => ?_, hm, F.kp, F.binds (ps := ps) (hb .none), .nil⟩
  obtain ⟨t, h1, h2⟩ := hbody f cdv A outer s H E hr
  exact ⟨t, h1, h2 vs Q hs⟩
/-- the same, called by keywords too -/
theorem dfx_of2 {P : Program} {w : World} {K : PySem.W.Frag} {mg : Str → Option Value} {base : Heap} {x : Str} {st : Stmt} {N ps : List Str} {k : Nat} {sp : Sp} (F : FunAt K mg x st) (S : FnScope N ps (defScope st)) (len : ∀ vs H Q E, sp vs H Q E → vs.length = ps.length)
    (hb : ∀ (oc : Value) (kV doc pm : Value) (an : Option Addr) (cdv ct : Value) (us : List Value), us.length = ps.length → bindArgs (PySem.W.fnOf x x (defArgs st) (defBody st) (defScope st) .none kV doc pm an cdv ct) ⟨us, []⟩ = pure (ps.zip us))
    (hbk : ∀ (kV doc pm : Value) (an : Option Addr) (cdv ct : Value) (ws : List Value), ws.length = ps.reverse.length → bindArgs (PySem.W.fnOf x x (defArgs st) (defBody st) (defScope st) .none kV doc pm an cdv ct) ⟨[], ps.reverse.zip ws⟩ = pure (ps.zip ws.reverse))
    (hbody : ∀ (f : Addr) (cdv : Value) (A : Around) (outer : List Env) (s : Shared) (H : Hp) (E : XK), Room k (A.deeper (envOfC x (defScope st) s.heap.objs.size f cdv)) →
      ∃ t, PSs (cxOf (L2.CX P w) P w K mg base N x (defScope st) f cdv A outer s H E) (defBody st) t ∧ ∀ vs Q, sp vs H Q E → t { nx := fun _ H' => Q .non H', rt := Q } (L2.start N vs) H) : Df P w K mg base (L2.CX P w) (k + 1) x ps [] sp ∧ DfR P w K mg base (L2.CX P w) (k + 1) x ps sp := by
  obtain ⟨f, fd, F, hm⟩ := F
  have ok : FnOk P w K mg base (L2.CX P w) (k + 1) f fd ps sp := F.okX S len fun cdv A outer s H vs Q E hr hs => by
    obtain ⟨t, h1, h2⟩ := hbody f cdv A outer s H E hr
    exact ⟨t, h1, h2 vs Q hs⟩
  refine ⟨⟨f, fd, [], ok, hm, F.kp, F.binds (ps := ps) (hb .none), .nil⟩, f, fd, ok, hm, F.kp, fun s us ws _ h1 h2 => ?_, fun _ r => vals_rev r⟩
  obtain ⟨oc, od, kV, doc, pm, an, cdv, ct, osl, rfl, _⟩ := F.ex
  have : us = [] := List.length_eq_zero_iff.mp h1
  subst this
  exact .of_eq (hbk kV doc pm an cdv ct ws h2)
end DL

namespace DL
open PySem PySem.Spec PyProof.Rows L2
/-! ### small data -/
/-- nested at most n deep, at most 12 wide, ints below 10 ^ 40, texts of at most 5 signs -/
def ty : Nat → PyData → Bool
  | _, .none => true
  | _, .bool _ => true
  | _, .int i => decide (i.natAbs < 10 ^ 40)
  | _, .str x => PyData.strOk x && decide (x.cps.size ≤ 5) && x.cps.toList.all fun c => decide (c < 16 ^ 8)
  | 0, .list _ => false
  | 0, .tuple _ => false
  | n + 1, .list xs => decide (xs.length ≤ 12) && xs.all fun x => ty n x
  | n + 1, .tuple xs => decide (xs.length ≤ 12) && xs.all fun x => ty n x
  | _, .dict _ => false
structure TyF (n B : Nat) (d : PyData) : Prop where
  lay : d.canLay0 = true
  dep : d.depth ≤ n
  show_ : d.showable = true
  short : d.leavesShort 45 = true
  wt : d.weight ≤ B
def wB' : Nat → Nat
  | 0 => 140
  | n + 1 => 12 * (wB' n + 1)
theorem wB_ge : ∀ n, 140 ≤ wB' n
  | 0 => by decide
  | n + 1 => by
    have := wB_ge n
    simp only [wB']
    omega
structure TyAll (n B : Nat) (xs : List PyData) : Prop where
  lay : PyData.canLayAll0 xs = true
  dep : PyData.depthAll xs ≤ n
  show_ : PyData.showableAll xs = true
  short : PyData.leavesShortAll 45 xs = true
  wt : PyData.weightAll xs ≤ xs.length * (B + 1)
theorem tyAll_of {n : Nat} (ih : ∀ d, ty n d = true → TyF n (wB' n) d) : ∀ {xs : List PyData}, (xs.all fun x => ty n x) = true → TyAll n (wB' n) xs
  | [], _ => ⟨by simp [PyData.canLayAll0], by simp [PyData.depthAll], by simp [PyData.showableAll], by simp [PyData.leavesShortAll], by simp [PyData.weightAll]⟩
  | x :: xs, h => by
    rw [List.all_cons, Bool.and_eq_true] at h
    have a := ih x h.1
    have b := tyAll_of ih h.2
    refine ⟨by simp [PyData.canLayAll0, a.lay, b.lay], ?_, by simp [PyData.showableAll, a.show_, b.show_], by simp [PyData.leavesShortAll, a.short, b.short], ?_⟩
    · have := a.dep
      have := b.dep
      simp only [PyData.depthAll]
      omega
    · have h1 := a.wt
      have h2 := b.wt
      simp only [PyData.weightAll, List.length_cons, Nat.succ_mul]
      omega
theorem log_lt {n k : Nat} (h : n < 2 ^ k) (hk : 0 < k) : n.log2 < k := by
  by_cases z : n = 0
  · subst z
    simpa using hk
  · exact (Nat.log2_lt z).mpr h
theorem tyF_int (n : Nat) {i : Int} (h : i.natAbs < 10 ^ 40) : TyF n (wB' n) (.int i) := by
  have lg : i.natAbs.log2 < 133 := log_lt (Nat.lt_of_lt_of_le h (by decide)) (by decide)
  have wb := wB_ge n
  refine ⟨by simp [PyData.canLay0], by simp [PyData.depth], by simp only [PyData.showable, decide_eq_true_eq]; omega, ?_, ?_⟩
  · simp only [PyData.leavesShort, PyData.shown]
    have : (toString i).length ≤ 41 := int_text_length_le10 (by decide) h
    have e := PySem.ofString_length (toString i)
    exact decide_eq_true (by omega)
  · simp only [PyData.weight]
    split <;> omega
theorem ty_f : ∀ (n : Nat) (d : PyData), ty n d = true → TyF n (wB' n) d
  | n, .none, _ => ⟨by simp [PyData.canLay0], by simp [PyData.depth], by simp [PyData.showable], by simp [PyData.leavesShort], by simp [PyData.weight]⟩
  | n, .bool _, _ => ⟨by simp [PyData.canLay0], by simp [PyData.depth], by simp [PyData.showable], by simp [PyData.leavesShort], by simp [PyData.weight]⟩
  | n, .int i, h => tyF_int n (by simpa [ty] using h)
  | n, .str x, h => by
    have wb := wB_ge n
    simp only [ty, Bool.and_eq_true, decide_eq_true_eq] at h
    exact ⟨by simp [PyData.canLay0, h.1.1], by simp [PyData.depth], by simp [PyData.showable], by simp only [PyData.leavesShort]; exact h.2, by simp only [PyData.weight]; omega⟩
  | 0, .list _, h => by simp [ty] at h
  | 0, .tuple _, h => by simp [ty] at h
  | n + 1, .list xs, h => by
    simp only [ty, Bool.and_eq_true, decide_eq_true_eq] at h
    have a := tyAll_of (ty_f n) h.2
    refine ⟨by simp [PyData.canLay0, a.lay], ?_, by simp [PyData.showable, a.show_], by simp [PyData.leavesShort, a.short], ?_⟩
    · have := a.dep
      simp only [PyData.depth]
      omega
    · have h1 := a.wt
      simp only [PyData.weight, wB']
      exact Nat.le_trans h1 (Nat.mul_le_mul_right _ h.1)
  | n + 1, .tuple xs, h => by
    simp only [ty, Bool.and_eq_true, decide_eq_true_eq] at h
    have a := tyAll_of (ty_f n) h.2
    refine ⟨by simp [PyData.canLay0, a.lay], ?_, by simp [PyData.showable, a.show_], by simp [PyData.leavesShort, a.short], ?_⟩
    · have := a.dep
      simp only [PyData.depth]
      omega
    · have h1 := a.wt
      simp only [PyData.weight, wB']
      exact Nat.le_trans h1 (Nat.mul_le_mul_right _ h.1)
  | n, .dict _, h => by cases n <;> simp [ty] at h
theorem ty_succ : ∀ (n : Nat) (d : PyData), ty n d = true → ty (n + 1) d = true
  | n, .none, _ => by simp [ty]
  | n, .bool _, _ => by simp [ty]
  | n, .int i, h => by simpa [ty] using h
  | n, .str x, h => by simpa [ty] using h
  | 0, .list _, h => by simp [ty] at h
  | 0, .tuple _, h => by simp [ty] at h
  | n + 1, .list xs, h => by
    simp only [ty, Bool.and_eq_true, decide_eq_true_eq, List.all_eq_true] at h ⊢
    exact ⟨h.1, fun x hx => ty_succ n x (h.2 x hx)⟩
  | n + 1, .tuple xs, h => by
    simp only [ty, Bool.and_eq_true, decide_eq_true_eq, List.all_eq_true] at h ⊢
    exact ⟨h.1, fun x hx => ty_succ n x (h.2 x hx)⟩
  | n, .dict _, h => by cases n <;> simp [ty] at h
theorem ty_le {n m : Nat} {d : PyData} (h : ty n d = true) (l : n ≤ m) : ty m d = true := by
  induction m with
  | zero =>
    have : n = 0 := by omega
    rw [← this]
    exact h
  | succ m ih =>
    by_cases z : n = m + 1
    · rw [← z]
      exact h
    · exact ty_succ m d (ih (by omega))
theorem ty_shaped {n : Nat} {d : PyData} (h : ty n d = true) (hn : n ≤ 60 := by decide) : SeqAt.shaped d = true := by
  have a := ty_f n d h
  unfold SeqAt.shaped
  rw [Bool.and_eq_true, decide_eq_true_eq]
  exact ⟨a.lay, by have := a.dep; omega⟩
theorem ty_list {n : Nat} {xs : List PyData} : ty (n + 1) (.list xs) = true ↔ xs.length ≤ 12 ∧ ∀ x ∈ xs, ty n x = true := by
  simp only [ty, Bool.and_eq_true, decide_eq_true_eq, List.all_eq_true]
theorem ty_tuple {n : Nat} {xs : List PyData} : ty (n + 1) (.tuple xs) = true ↔ xs.length ≤ 12 ∧ ∀ x ∈ xs, ty n x = true := by
  simp only [ty, Bool.and_eq_true, decide_eq_true_eq, List.all_eq_true]
theorem ty_item {n : Nat} {xs : List PyData} (h : ty n (.list xs) = true) {x : PyData} (hx : x ∈ xs) : ty n x = true := by
  cases n with
  | zero => simp [ty] at h
  | succ n => exact ty_succ n x ((ty_list.mp h).2 x hx)
theorem ty_len {n : Nat} {xs : List PyData} (h : ty n (.list xs) = true) : xs.length ≤ 12 := by
  cases n with
  | zero => simp [ty] at h
  | succ n => exact (ty_list.mp h).1
theorem line12 {n : Nat} (h : n ≤ 12) : n ≤ sizeLine := by
  rw [sizeLine_eq]
  omega
theorem c_reprT {R : PyData → Prop} {d : PyData} (h : ty 3 d = true) (r : R (.str d.shown)) : CallW rRepr [d] R := by
  have a := ty_f 3 d h
  refine c_repr (noDict_of_lay a.lay) a.show_ (by have := a.dep; omega) ?_ r
  have h1 := PyData.shown_le 45 (by decide) d a.short
  have h2 : d.weight ≤ 243804 := Nat.le_trans a.wt (by decide)
  rw [sizeLine_eq]
  omega
theorem eqv_int (a b : Int) : PyData.eqv (.int a) (.int b) = decide (a = b) := by
  simp only [PyData.eqv]
  by_cases h : a = b <;> simp [h]
theorem eqvAll_ints : ∀ a b : List Int, PyData.eqvAll (a.map .int) (b.map .int) = decide (a = b)
  | [], [] => by simp [PyData.eqvAll]
  | [], _ :: _ => by simp [PyData.eqvAll]
  | _ :: _, [] => by simp [PyData.eqvAll]
  | x :: xs, y :: ys => by
    simp only [List.map_cons, PyData.eqvAll, eqv_int, eqvAll_ints xs ys, List.cons.injEq]
    by_cases h : x = y <;> by_cases h2 : xs = ys <;> simp [h, h2]
/-- a list of ints; rows of ints -/
abbrev il (l : List Int) : PyData := .list (l.map .int)
abbrev rl (m : List (List Int)) : PyData := .list (m.map il)
theorem eqv_il (a b : List Int) : PyData.eqv (il a) (il b) = decide (a = b) := by
  simp only [PyData.eqv, eqvAll_ints]
theorem eqvAll_rows : ∀ a b : List (List Int), PyData.eqvAll (a.map il) (b.map il) = decide (a = b)
  | [], [] => by simp [PyData.eqvAll]
  | [], _ :: _ => by simp [PyData.eqvAll]
  | _ :: _, [] => by simp [PyData.eqvAll]
  | x :: xs, y :: ys => by
    simp only [List.map_cons, PyData.eqvAll, eqv_il, eqvAll_rows xs ys, List.cons.injEq]
    by_cases h : x = y <;> by_cases h2 : xs = ys <;> simp [h, h2]
theorem eqv_rl (a b : List (List Int)) : PyData.eqv (rl a) (rl b) = decide (a = b) := by
  simp only [PyData.eqv, eqvAll_rows]
theorem lay_ints : ∀ l : List Int, PyData.canLayAll0 (l.map .int) = true
  | [] => by simp [PyData.canLayAll0]
  | _ :: l => by simp [PyData.canLayAll0, PyData.canLay0, lay_ints l]
theorem depth_ints : ∀ l : List Int, PyData.depthAll (l.map .int) = 0
  | [] => by simp [PyData.depthAll]
  | _ :: l => by simp [PyData.depthAll, PyData.depth, depth_ints l]
theorem shaped_il (l : List Int) : SeqAt.shaped (il l) = true := by
  simp [SeqAt.shaped, PyData.canLay0, PyData.depth, lay_ints, depth_ints]
theorem lay_rows : ∀ l : List (List Int), PyData.canLayAll0 (l.map il) = true
  | [] => by simp [PyData.canLayAll0]
  | _ :: l => by simp [PyData.canLayAll0, PyData.canLay0, lay_ints, lay_rows l]
theorem depth_rows : ∀ l : List (List Int), PyData.depthAll (l.map il) ≤ 1
  | [] => by simp [PyData.depthAll]
  | x :: l => by
    have := depth_rows l
    simp only [List.map_cons, PyData.depthAll, PyData.depth, depth_ints]
    omega
theorem shaped_rl (l : List (List Int)) : SeqAt.shaped (rl l) = true := by
  have := depth_rows l
  unfold SeqAt.shaped
  rw [Bool.and_eq_true]
  refine ⟨by simp only [PyData.canLay0, lay_rows], decide_eq_true ?_⟩
  simp only [PyData.depth]
  omega
theorem shaped_int (i : Int) : SeqAt.shaped (.int i) = true := by simp [SeqAt.shaped, PyData.canLay0, PyData.depth]
end DL

namespace DL
open PySem PySem.Spec PyProof.Rows L2
section
variable {ρ : Rho} {RO : List PyData → Rho → Prop} {R : PyData → Rho → Prop} {wi : TI} {te : TE} {j : Nat} {α β : Type}
/-- a map over what stands for a list -/
theorem wO_mapL (l : List α) (inj : α → PyData) (c : β → PyData) (h : α → β) (hno : ρ[j]? = some .no) (hz : l.length ≤ sizeLine) (hi : wI wi ρ fun ds' ρ1 => ds' = l.map inj ∧ ρ1 = ρ)
    (he : ∀ a ∈ l, wE te (ρ.set j (.dat (inj a))) fun e' ρ' => e' = c (h a) ∧ ρ' = ρ.set j (.dat (inj a))) (r : RO ((l.map h).map c) ρ) : wO (tLc wi (gName j) tYes te [j]) ρ RO := by
  refine wO_map (ds := l.map inj) (es := (l.map h).map c) hno (by rw [List.length_map]; exact hz) (by simp) hi (fun i d e h1 h2 => ?_) r
  rw [List.getElem?_map] at h1 h2
  rw [List.getElem?_map] at h2
  cases q : l[i]? with
  | none =>
    rw [q] at h1
    cases h1
  | some a =>
    rw [q] at h1 h2
    cases h1
    cases h2
    exact he a (List.mem_of_getElem? q)
theorem w_mapL (l : List α) (inj : α → PyData) (c : β → PyData) (h : α → β) (hno : ρ[j]? = some .no) (hz : l.length ≤ sizeLine) (hi : wI wi ρ fun ds' ρ1 => ds' = l.map inj ∧ ρ1 = ρ)
    (he : ∀ a ∈ l, wE te (ρ.set j (.dat (inj a))) fun e' ρ' => e' = c (h a) ∧ ρ' = ρ.set j (.dat (inj a))) (r : R (.list ((l.map h).map c)) ρ) : wE (tLc wi (gName j) tYes te [j]) ρ R :=
  (wO_mapL (RO := fun ds ρ1 => R (.list ds) ρ1) l inj c h hno hz hi he r).fr fun _ _ r => r
/-- what is looked for among items -/
theorem w_filL (l : List α) (inj : α → PyData) (p : α → Bool) {tt : TT} (hno : ρ[j]? = some .no) (hz : l.length ≤ sizeLine) (hi : wI wi ρ fun ds' ρ1 => ds' = l.map inj ∧ ρ1 = ρ)
    (he : ∀ a ∈ l, wT tt (ρ.set j (.dat (inj a))) fun b ρ' => b = p a ∧ ρ' = ρ.set j (.dat (inj a))) (c : β → PyData) (h : α → β) (hc : ∀ a ∈ l, p a = true → wE te (ρ.set j (.dat (inj a))) fun e' ρ' => e' = c (h a) ∧ ρ' = ρ.set j (.dat (inj a))) (rc : R (.list (((l.filter p).map h).map c)) ρ) :
    wE (tLc wi (gName j) tt te [j]) ρ R := by
  have hb : (ρ.set j .no) = ρ := by
    refine List.ext_getElem? fun k => ?_
    by_cases z : j = k
    · subst z
      rw [List.getElem?_set_self (List.getElem?_eq_some_iff.mp hno).1, hno]
    · rw [List.getElem?_set_ne z]
  refine w_lc (fun k hk => ?_) fun B G H σ K RR q => hi B G H σ K RR fun J G' H' ρ' ds' S ⟨e1, e2⟩ it => q J G' H' ρ' ds' S ?_ it
  · rw [List.mem_singleton.mp hk]
    exact hno
  · subst ds'
    subst ρ'
    refine ⟨fun i acc ρ' => acc = (((l.take i).filter p).map h).map c ∧ ρ' = ρ, ⟨by simp, rfl⟩, fun acc ρ' ⟨a, b⟩ => ?_, fun i d acc ρ' hd ⟨a, b⟩ => ?_⟩
    · rw [a, b, List.length_map, List.take_length]
      exact rc
    · subst ρ'
      rw [List.getElem?_map] at hd
      cases q : l[i]? with
      | none =>
        rw [q] at hd
        cases hd
      | some x =>
        rw [q] at hd
        cases hd
        have hx := List.mem_of_getElem? q
        have hil : i < l.length := (List.getElem?_eq_some_iff.mp q).1
        have ht : l.take (i + 1) = l.take i ++ [x] := by
          rw [List.take_succ, q]
          rfl
        refine gc_name ((he x hx).imp fun b ρ' ⟨hp, e⟩ => ?_)
        subst ρ'
        subst b
        cases hpx : p x with
        | true =>
          rw [if_pos rfl]
          refine (hc x hx hpx).imp fun e' ρ2 ⟨a1, a2⟩ => ?_
          subst e'
          subst ρ2
          refine ⟨?_, ?_, ?_⟩
          · rw [a, List.length_map, List.length_map]
            have := List.length_filter_le p (l.take i)
            rw [List.length_take] at this
            omega
          · rw [a, ht, List.filter_append, List.map_append, List.map_append]
            simp [hpx]
          · show (ρ.set j _).set j .no = ρ
            rw [List.set_set, hb]
        | false =>
          rw [if_neg Bool.false_ne_true]
          refine ⟨?_, ?_⟩
          · rw [a, ht, List.filter_append, List.map_append, List.map_append]
            simp [hpx]
          · show (ρ.set j _).set j .no = ρ
            rw [List.set_set, hb]
end
end DL

/-! zip(a, b, strict=True) over two lists of the same length. -/
namespace ZipS
open PySem PySem.Spec PyProof.Rows L2
/-- the strict zip object -/
abbrev IsZs (h : Heap) (z TI TO : Addr) (f0 : Value) : Prop :=
  h.get? z = some { cls := .type "zip", dict := none, data := .fields #[f0, .bool false, .bool true, .ref TI, .ref TO], slots := #[] }
section
variable {prog : Program} {w : World} {A : Around} {E : Value → Shared → Prop} {s : Shared}
theorem nextOrEnd_item {it l : Addr} {i : Nat} {items : Array Value} {x : Value} {Q : Option Value → Shared → Prop} (hit : s.heap.IsListIter it l i) (hl : s.heap.IsList l items) (hx : items[i]? = some x)
    (hQ : ∀ h', h'.IsListIter it l (i + 1) → Heap.SameBut it s.heap h' → Q (some x) { s with heap := h' }) : wpAny (model prog w) A (Builtin.SmallTypes.nextOrEnd (.ref it)) Q E s := by
  unfold Builtin.SmallTypes.nextOrEnd
  refine wpAny_bind (wpAny_attempt ?_)
  exact wpAny_nextOf_list_item hit hl hx fun h' h1 h2 => wpAny_pure (hQ h' h1 h2)
theorem nextOrEnd_end {it l : Addr} {i : Nat} {items : Array Value} {Q : Option Value → Shared → Prop} (hh : A.handled = none) (hit : s.heap.IsListIter it l i) (hl : s.heap.IsList l items) (hx : items[i]? = none)
    (hQ : ∀ h', Heap.ExtBut it s.heap h' → Q none { s with heap := h' }) : wpAny (model prog w) A (Builtin.SmallTypes.nextOrEnd (.ref it)) Q E s := by
  unfold Builtin.SmallTypes.nextOrEnd
  refine wpAny_bind (wpAny_attempt ?_)
  refine wpAny_nextOf_list_end hh hit hl hx fun h' e k he => ?_
  obtain ⟨o, ho, hc⟩ := he
  refine wpAny_bind (wpAny_isInstance (T := "StopIteration") (b := true) ⟨o, ho, hc⟩ isSubtype_stop ?_)
  exact wpAny_pure (hQ h' k)
theorem zs_item {z TI TO i1 i2 l1 l2 : Addr} {k1 k2 : Nat} {xs ys : Array Value} {x y a b : Value} {Q : Value → Shared → Prop} (D : ZipApart z TI TO i1 i2 l1 l2)
    (hz : IsZs s.heap z TI TO .none) (hTI : IsPair s.heap TI (.ref i1) (.ref i2)) (hTO : IsPair s.heap TO a b)
    (h1 : s.heap.IsListIter i1 l1 k1) (h2 : s.heap.IsListIter i2 l2 k2) (hl1 : s.heap.IsList l1 xs) (hl2 : s.heap.IsList l2 ys) (hx : xs[k1]? = some x) (hy : ys[k2]? = some y)
    (hQ : ∀ h', IsZs h' z TI TO (rawInt s.heap.objs.size) → IsPair h' TO x y → h'.IsListIter i1 l1 (k1 + 1) → h'.IsListIter i2 l2 (k2 + 1) → IsPair h' s.heap.objs.size x y → h'.objs.size = s.heap.objs.size + 1 →
      (∀ c o, c ≠ z → c ≠ TO → c ≠ i1 → c ≠ i2 → s.heap.get? c = some o → h'.get? c = some o) → Q (.ref s.heap.objs.size) { s with heap := h' }) :
    wpAny (model prog w) A (Builtin.«zip.__next__» ⟨[.ref z], []⟩) (fun fin s' => ∃ v, fin = .done (.ret v) ∧ Q v s') E s := by
  show wpAny _ _ (field (.ref z) 2 >>= _) _ _ _
  refine wpAny_bind (wpAny_field hz rfl (x := .bool true) rfl ?_)
  show wpAny _ _ (field (.ref z) 3 >>= _) _ _ _
  refine wpAny_bind (wpAny_field hz rfl (x := .ref TI) rfl ?_)
  refine wpAny_bind (wpAny_seqItems hTI rfl ?_)
  show wpAny _ _ (Builtin.SmallTypes.ownedTupleIsFree (.ref z) >>= _) _ _ _
  refine wpAny_bind ?_
  unfold Builtin.SmallTypes.ownedTupleIsFree
  refine wpAny_bind (wpAny_field hz rfl (x := .none) rfl (wpAny_pure ?_))
  simp only [if_true]
  refine wpAny_bind (wpAny_rule ?_)
  refine wpAny_bind (wpAny_field hz rfl (x := .ref TO) rfl ?_)
  refine wpAny_bind (wpAny_setField_rec hz (by simp) fun h₁ hz₁ hs₁ => ?_)
  replace hz₁ : IsZs h₁ z TI TO .ellipsis := hz₁
  refine wpAny_bind ?_
  simp only [List.zipIdx_cons, List.zipIdx_nil, List.forIn_cons, List.forIn_nil]
  -- the first list's item
  refine wpAny_bind (wpAny_bind (wpAny_onRaise ?_))
  show wpAny _ _ (Builtin.SmallTypes.nextOrEnd (.ref i1)) _ _ _
  refine nextOrEnd_item (h1.extBut hs₁.extBut D.i1z) (hl1.extBut hs₁.extBut D.l1z) hx fun h₂ h1₂ hs₂ => ?_
  have hTO₂ : IsPair h₂ TO a b := hs₂.extBut _ _ D.TOi1 (hs₁.extBut _ _ D.TOz hTO)
  refine wpAny_bind (wpAny_seqItems hTO₂ rfl ?_)
  refine wpAny_bind (wpAny_updateSeq_pair hTO₂ fun h₃ hTO₃ hs₃ => ?_)
  replace hTO₃ : IsPair h₃ TO x b := hTO₃
  refine wpAny_bind (wpAny_letGo (wpAny_pure ?_))
  -- the second's
  refine wpAny_bind (wpAny_bind (wpAny_onRaise ?_))
  show wpAny _ _ (Builtin.SmallTypes.nextOrEnd (.ref i2)) _ _ _
  refine nextOrEnd_item (((h2.extBut hs₁.extBut D.i2z).extBut hs₂.extBut D.i12.symm).extBut hs₃.extBut D.TOi2.symm)
    (((hl2.extBut hs₁.extBut D.l2z).extBut hs₂.extBut D.l2i1).extBut hs₃.extBut D.l2TO) hy fun h₄ h2₄ hs₄ => ?_
  have hTO₄ : IsPair h₄ TO x b := hs₄.extBut _ _ D.TOi2 hTO₃
  refine wpAny_bind (wpAny_seqItems hTO₄ rfl ?_)
  refine wpAny_bind (wpAny_updateSeq_pair hTO₄ fun h₅ hTO₅ hs₅ => ?_)
  replace hTO₅ : IsPair h₅ TO x y := hTO₅
  refine wpAny_bind (wpAny_letGo (wpAny_pure (wpAny_pure ?_)))
  refine wpAny_bind (wpAny_seqItems hTO₅ rfl ?_)
  refine wpAny_bind (wpAny_newTuple ?_)
  have hsz : h₅.objs.size = s.heap.objs.size := by rw [hs₅.1, hs₄.1, hs₃.1, hs₂.1, hs₁.1]
  have hz₅ : IsZs h₅ z TI TO .ellipsis := hs₅.extBut _ _ D.TOz.symm (hs₄.extBut _ _ D.i2z.symm (hs₃.extBut _ _ D.TOz.symm (hs₂.extBut _ _ D.i1z.symm hz₁)))
  have hk₅ : ∀ c o, c ≠ z → c ≠ TO → c ≠ i1 → c ≠ i2 → s.heap.get? c = some o → h₅.get? c = some o := fun c o c1 c2 c3 c4 e =>
    hs₅.extBut _ _ c2 (hs₄.extBut _ _ c4 (hs₃.extBut _ _ c2 (hs₂.extBut _ _ c3 (hs₁.extBut _ _ c1 e))))
  have h1₅ : h₅.IsListIter i1 l1 (k1 + 1) := ((h1₂.extBut hs₃.extBut D.TOi1.symm).extBut hs₄.extBut D.i12).extBut hs₅.extBut D.TOi1.symm
  have h2₅ : h₅.IsListIter i2 l2 (k2 + 1) := h2₄.extBut hs₅.extBut D.TOi2.symm
  have hzlt : z < h₅.objs.size := Heap.lt_size hz₅
  show wpAny _ _ (Builtin.SmallTypes.ownedTupleHandOut (.ref z) (.ref h₅.objs.size) >>= _) _ _ _
  refine wpAny_bind ?_
  unfold Builtin.SmallTypes.ownedTupleHandOut
  have hz₆ : IsZs (h₅.push { cls := .type "tuple", data := .seq #[x, y] }) z TI TO .ellipsis := Heap.get?_push_of_some _ hz₅
  refine wpAny_bind (wpAny_setField_rec hz₆ (by simp) fun h₇ hz₇ hs₇ => ?_)
  replace hz₇ : IsZs h₇ z TI TO (rawInt h₅.objs.size) := hz₇
  refine wpAny_setField_rec hz₇ (by simp) fun h₈ hz₈ hs₈ => ?_
  replace hz₈ : IsZs h₈ z TI TO (rawInt h₅.objs.size) := hz₈
  have up : ∀ c o, c ≠ z → h₅.get? c = some o → h₈.get? c = some o := fun c o c1 e => hs₈.extBut _ _ c1 (hs₇.extBut _ _ c1 (Heap.get?_push_of_some _ e))
  have hT₈ : IsPair h₈ h₅.objs.size x y := hs₈.extBut _ _ (Nat.ne_of_gt hzlt) (hs₇.extBut _ _ (Nat.ne_of_gt hzlt) (Heap.get?_push_size _ rfl))
  have hz8 : h₈.objs.size = h₅.objs.size + 1 := by rw [hs₈.1, hs₇.1, Heap.size_push]
  rw [hsz] at hz₈ hT₈ hz8
  refine wpAny_pure ⟨_, rfl, ?_⟩
  show Q (.ref h₅.objs.size) _
  rw [hsz]
  exact hQ h₈ hz₈ (up _ _ D.TOz hTO₅) (h1₅.at fun o e => up _ o D.i1z e) (h2₅.at fun o e => up _ o D.i2z e) hT₈ hz8 fun c o c1 c2 c3 c4 e => up c o c1 (hk₅ c o c1 c2 c3 c4 e)
/-- StopIteration by itself -/
theorem stop_new {α : Type} {Q : α → Shared → Prop} (hh : A.handled = none) (hE : ∀ h' e, (∀ b o, s.heap.get? b = some o → h'.get? b = some o) → (∃ o, h'.get? e = some o ∧ o.cls = .type "StopIteration") → E (.ref e) { s with heap := h' }) :
    wpAny (model prog w) A (Builtin.SmallTypes.stopIteration : Sem α) Q E s := by
  unfold Builtin.SmallTypes.stopIteration
  refine wpAny_bind ?_
  simp only [newExc, newTuple]
  refine wpAny_bind (wpAny_newObj_type ?_ (by size_fits))
  refine wpAny_bind (m := firstArgMember _ _) (wpAny_of_eq (a := Value.none) (by first | rfl | (simp only [firstArgMember]; rfl)) ?_)
  refine wpAny_newObj_type ?_ (by size_fits)
  simp only [raiseNew]
  refine wpAny_bind (wpAny_handled ?_)
  rw [hh]
  refine wpAny_bind (wpAny_pure (wpAny_throw ?_))
  exact hE _ _ (fun b o e => Heap.get?_push_of_some _ (Heap.get?_push_of_some _ e)) ⟨_, Heap.get?_push_size _ rfl, rfl⟩
theorem zs_end {z TI TO i1 i2 l1 l2 : Addr} {k : Nat} {xs ys : Array Value} {a b : Value} {Q : Fin → Shared → Prop} (hh : A.handled = none) (D : ZipApart z TI TO i1 i2 l1 l2)
    (hz : IsZs s.heap z TI TO .none) (hTI : IsPair s.heap TI (.ref i1) (.ref i2)) (hTO : IsPair s.heap TO a b)
    (h1 : s.heap.IsListIter i1 l1 k) (h2 : s.heap.IsListIter i2 l2 k) (hl1 : s.heap.IsList l1 xs) (hl2 : s.heap.IsList l2 ys) (hx : xs[k]? = none) (hy : ys[k]? = none)
    (hE : ∀ h' e, (∀ c o, c ≠ z → c ≠ TO → c ≠ i1 → c ≠ i2 → s.heap.get? c = some o → h'.get? c = some o) → (∃ o, h'.get? e = some o ∧ o.cls = .type "StopIteration") → E (.ref e) { s with heap := h' }) :
    wpAny (model prog w) A (Builtin.«zip.__next__» ⟨[.ref z], []⟩) Q E s := by
  show wpAny _ _ (field (.ref z) 2 >>= _) _ _ _
  refine wpAny_bind (wpAny_field hz rfl (x := .bool true) rfl ?_)
  show wpAny _ _ (field (.ref z) 3 >>= _) _ _ _
  refine wpAny_bind (wpAny_field hz rfl (x := .ref TI) rfl ?_)
  refine wpAny_bind (wpAny_seqItems hTI rfl ?_)
  show wpAny _ _ (Builtin.SmallTypes.ownedTupleIsFree (.ref z) >>= _) _ _ _
  refine wpAny_bind ?_
  unfold Builtin.SmallTypes.ownedTupleIsFree
  refine wpAny_bind (wpAny_field hz rfl (x := .none) rfl (wpAny_pure ?_))
  simp only [if_true]
  refine wpAny_bind (wpAny_rule ?_)
  refine wpAny_bind (wpAny_field hz rfl (x := .ref TO) rfl ?_)
  refine wpAny_bind (wpAny_setField_rec hz (by simp) fun h₁ hz₁ hs₁ => ?_)
  replace hz₁ : IsZs h₁ z TI TO .ellipsis := hz₁
  refine wpAny_bind ?_
  simp only [List.zipIdx_cons, List.zipIdx_nil, List.forIn_cons, List.forIn_nil]
  refine wpAny_bind (wpAny_bind (wpAny_onRaise ?_))
  show wpAny _ _ (Builtin.SmallTypes.nextOrEnd (.ref i1)) _ _ _
  refine nextOrEnd_end hh (h1.extBut hs₁.extBut D.i1z) (hl1.extBut hs₁.extBut D.l1z) hx fun h₂ hs₂ => ?_
  have hz₂ : IsZs h₂ z TI TO .ellipsis := hs₂ _ _ D.i1z.symm hz₁
  refine wpAny_bind (wpAny_setField_rec hz₂ (by simp) fun h₃ hz₃ hs₃ => ?_)
  refine wpAny_bind ?_
  show wpAny _ _ (forIn ([(Value.ref i2, 1)] : List (Value × Nat)) _ _ >>= _) _ _ _
  refine wpAny_bind ?_
  simp only [List.forIn_cons, List.forIn_nil]
  refine wpAny_bind ?_
  refine wpAny_bind (nextOrEnd_end hh (((h2.extBut hs₁.extBut D.i2z).extBut hs₂ D.i12.symm).extBut hs₃.extBut D.i2z) (((hl2.extBut hs₁.extBut D.l2z).extBut hs₂ D.l2i1).extBut hs₃.extBut D.l2z) hy fun h₄ hs₄ => ?_)
  simp only [Option.isSome_none, Bool.false_eq_true, if_false]
  refine wpAny_pure (wpAny_pure (wpAny_bind (wpAny_rule ?_)))
  refine stop_new hh fun h₅ e hk he => hE h₅ e (fun c o c1 c2 c3 c4 x => ?_) he
  exact hk _ _ (hs₄ _ _ c4 (hs₃.extBut _ _ c1 (hs₂ _ _ c3 (hs₁.extBut _ _ c1 x))))
theorem next_item {z TI TO i1 i2 l1 l2 : Addr} {k1 k2 : Nat} {xs ys : Array Value} {x y a b : Value} {Q : Option Value → Shared → Prop} (D : ZipApart z TI TO i1 i2 l1 l2)
    (hz : IsZs s.heap z TI TO .none) (hTI : IsPair s.heap TI (.ref i1) (.ref i2)) (hTO : IsPair s.heap TO a b)
    (h1 : s.heap.IsListIter i1 l1 k1) (h2 : s.heap.IsListIter i2 l2 k2) (hl1 : s.heap.IsList l1 xs) (hl2 : s.heap.IsList l2 ys) (hx : xs[k1]? = some x) (hy : ys[k2]? = some y)
    (hQ : ∀ h', IsZs h' z TI TO (rawInt s.heap.objs.size) → IsPair h' TO x y → h'.IsListIter i1 l1 (k1 + 1) → h'.IsListIter i2 l2 (k2 + 1) → IsPair h' s.heap.objs.size x y → h'.objs.size = s.heap.objs.size + 1 →
      (∀ c o, c ≠ z → c ≠ TO → c ≠ i1 → c ≠ i2 → s.heap.get? c = some o → h'.get? c = some o) → Q (some (.ref s.heap.objs.size)) { s with heap := h' }) :
    wpAny (model prog w) A (pyNext (.ref z)) Q E s := by
  have hT : s.TypeIs (.ref z) "zip" := ⟨_, hz, rfl⟩
  unfold pyNext
  exact wpAny_bind (wpAny_attempt (wpAny_callSpecial?_slot (name := Str.ofString "__next__") hT F.slot_zip_next
    (wpAny_call_entry F.slot_zip_next hT F.entry_zip_next
      (zs_item D hz hTI hTO h1 h2 hl1 hl2 hx hy fun h' a1 a2 a3 a4 a5 a6 a7 => wpAny_pure (hQ h' a1 a2 a3 a4 a5 a6 a7)) (F.args_zip_next_1 _))))
theorem next_end {z TI TO i1 i2 l1 l2 : Addr} {k : Nat} {xs ys : Array Value} {a b : Value} {Q : Option Value → Shared → Prop} (hh : A.handled = none) (D : ZipApart z TI TO i1 i2 l1 l2)
    (hz : IsZs s.heap z TI TO .none) (hTI : IsPair s.heap TI (.ref i1) (.ref i2)) (hTO : IsPair s.heap TO a b)
    (h1 : s.heap.IsListIter i1 l1 k) (h2 : s.heap.IsListIter i2 l2 k) (hl1 : s.heap.IsList l1 xs) (hl2 : s.heap.IsList l2 ys) (hx : xs[k]? = none) (hy : ys[k]? = none)
    (hQ : ∀ h', (∀ c o, c ≠ z → c ≠ TO → c ≠ i1 → c ≠ i2 → s.heap.get? c = some o → h'.get? c = some o) → Q none { s with heap := h' }) : wpAny (model prog w) A (pyNext (.ref z)) Q E s := by
  have hT : s.TypeIs (.ref z) "zip" := ⟨_, hz, rfl⟩
  unfold pyNext
  refine wpAny_bind (wpAny_attempt (wpAny_callSpecial?_slot (name := Str.ofString "__next__") hT F.slot_zip_next
    (wpAny_call_entry F.slot_zip_next hT F.entry_zip_next (zs_end hh D hz hTI hTO h1 h2 hl1 hl2 hx hy fun h' e hk he => ?_) (F.args_zip_next_1 _))))
  obtain ⟨o, ho, hc⟩ := he
  refine wpAny_bind (wpAny_isInstance (T := "StopIteration") (b := true) ⟨o, ho, hc⟩ isSubtype_stop ?_)
  exact wpAny_pure (hQ _ hk)
theorem letgo {elts : List Expr} {x1} {pos : Pos} {z TI TO T : Addr} {Q : Unit → Shared → Prop} (hz : IsZs s.heap z TI TO (rawInt T))
    (hQ : ∀ h', IsZs h' z TI TO .none → Heap.SameBut z s.heap h' → Q () { s with heap := h' }) :
    wpAny (model prog w) A (letOwnedTupleGo (.Tuple elts x1 pos) (.ref z) (.ref T)) Q E s := by
  unfold letOwnedTupleGo
  refine wpAny_bind (wpAny_load hz ?_)
  show wpAny _ _ (if (["enumerate", "zip", "dict_itemiterator", "dict_reverseitemiterator", "odict_iterator", "itertools.zip_longest", "itertools.pairwise"].contains "zip" &&
      (#[rawInt T, .bool false, .bool true, .ref TI, .ref TO] : Array Value)[0]? == some (rawInt T)) = true then _ else _) Q E s
  rw [if_pos (by simp)]
  refine wpAny_bind (wpAny_rule ?_)
  show wpAny _ _ (setField (.ref z) 0 .none) Q E s
  exact wpAny_setField_rec hz (by simp) fun h' hz' hs' => hQ h' hz' hs'
theorem iter_self {z TI TO : Addr} {f0 : Value} {Q : Value → Shared → Prop} (hz : IsZs s.heap z TI TO f0) (h : Q (.ref z) s) : wpAny (model prog w) A (pyIter (.ref z)) Q E s := by
  have hT : s.TypeIs (.ref z) "zip" := ⟨_, hz, rfl⟩
  refine wpAny_pyIter_slot hT F.slot_zip_iter (wpAny_call_entry F.slot_zip_iter hT F.entry_zip_iter ?_ (F.args_zip_iter_1 _))
  show wpAny _ _ (ret (.ref z)) _ _ s
  exact wpAny_pure ⟨_, rfl, "zip", _, hT, F.slot_zip_next.lookup, h⟩
end
/-! the call -/
theorem tc (a b c : Value) : checkTypeCall "zip" ⟨[a, b], [(Str.ofString "strict", c)]⟩ = pure () := by kernel_rfl
theorem nc (a b c : Value) : checkBuiltinCall "zip.__new__" ⟨[.type "zip", a, b], [(Str.ofString "strict", c)]⟩ = pure () := by kernel_rfl
theorem oi (o a b c : Value) : argsOk "object.__init__" ⟨[o, a, b], [(Str.ofString "strict", c)]⟩ := by unfold argsOk; kernel_rfl
abbrev z5 (h : Heap) (l1 l2 : Addr) : Heap := (zipH4 h l1 l2).push { cls := .type "zip", data := .fields #[.none, .bool false, .bool true, .ref (zipH2 h l1 l2).objs.size, .ref (zipH3 h l1 l2).objs.size] }
set_option maxHeartbeats 4000000 in
theorem meets_new (l1 l2 : Addr) (xs ys : Array Value) :
    Meets (Builtin.«zip.__new__» ⟨[.type "zip", .ref l1, .ref l2], [(Str.ofString "strict", .bool true)]⟩) (fun _ R s => s.heap.IsList l1 xs ∧ s.heap.IsList l2 ys ∧
      R (.ok (.ret (.ref (zipH4 s.heap l1 l2).objs.size))) { s with heap := z5 s.heap l1 l2 }) :=
  .of_wp fun prog w A R s h => by
    obtain ⟨hp, g, d, tk, os⟩ := s; obtain ⟨hl1, hl2, h⟩ := h
    have hsub := sub_zip
    have hL1 : Heap.IsList (Shared.heap ⟨hp, g, d, tk, os⟩) l1 xs := hl1
    have hL2 : Heap.IsList (Shared.heap ⟨hp.push { cls := .type "list_iterator", data := .fields #[.ref l1, .int 0 0] }, g, d, tk, os⟩) l2 ys := Heap.IsList.push hl2 _
    have e1 : (Str.ofString "strict" != ("strict" : Str)) = false := by decide +kernel
    wp_walk using wpAny_pyIter_list hL1, wpAny_pyIter_list hL2
    exact ⟨_, rfl, h⟩
end ZipS

namespace ZipS
open PySem PySem.Spec PyProof.Rows L2
section
variable {prog : Program} {w : World} {A : Around} {E : Value → Shared → Prop} {s : Shared}
theorem call_zs {l1 l2 : Addr} {xs ys : Array Value} {Q : Value → Shared → Prop} (hl1 : s.heap.IsList l1 xs) (hl2 : s.heap.IsList l2 ys)
    (h : ∀ h', IsZs h' (s.heap.objs.size + 4) (s.heap.objs.size + 2) (s.heap.objs.size + 3) .none → IsPair h' (s.heap.objs.size + 2) (.ref s.heap.objs.size) (.ref (s.heap.objs.size + 1)) →
      IsPair h' (s.heap.objs.size + 3) .none .none → h'.IsListIter s.heap.objs.size l1 0 → h'.IsListIter (s.heap.objs.size + 1) l2 0 → h'.objs.size = s.heap.objs.size + 5 →
      (∀ c o, s.heap.get? c = some o → h'.get? c = some o) → Q (.ref (s.heap.objs.size + 4)) { s with heap := h' }) :
    wpAny (model prog w) A (call (.type "zip") [.ref l1, .ref l2] [(Str.ofString "strict", .bool true)]) Q E s := by
  refine callType_newKw F.called_zip (by decide) (tc _ _ _) (nc _ _ _) (fun obj => oi obj _ _ _) F.entry_zip_new (meets_new l1 l2 xs ys) ⟨hl1, hl2, ?_⟩
  have z1 : (zipH1 s.heap l1).objs.size = s.heap.objs.size + 1 := Heap.size_push ..
  have z2 : (zipH2 s.heap l1 l2).objs.size = s.heap.objs.size + 2 := by rw [Heap.size_push, z1]
  have z3 : (zipH3 s.heap l1 l2).objs.size = s.heap.objs.size + 3 := by rw [Heap.size_push, z2]
  have z4 : (zipH4 s.heap l1 l2).objs.size = s.heap.objs.size + 4 := by rw [Heap.size_push, z3]
  have zz : (z5 s.heap l1 l2).objs.size = s.heap.objs.size + 5 := by rw [Heap.size_push, z4]
  have g5 : (z5 s.heap l1 l2).get? (zipH4 s.heap l1 l2).objs.size = some _ := Heap.get?_push_size _ rfl
  have g4 : (z5 s.heap l1 l2).get? (zipH3 s.heap l1 l2).objs.size = some _ := Heap.get?_push_of_some _ (Heap.get?_push_size _ rfl)
  have g3 : (z5 s.heap l1 l2).get? (zipH2 s.heap l1 l2).objs.size = some _ := Heap.get?_push_of_some _ (Heap.get?_push_of_some _ (Heap.get?_push_size _ rfl))
  have g2 : (z5 s.heap l1 l2).get? (zipH1 s.heap l1).objs.size = some _ := Heap.get?_push_of_some _ (Heap.get?_push_of_some _ (Heap.get?_push_of_some _ (Heap.get?_push_size _ rfl)))
  have g1 : (z5 s.heap l1 l2).get? s.heap.objs.size = some _ := Heap.get?_push_of_some _ (Heap.get?_push_of_some _ (Heap.get?_push_of_some _ (Heap.get?_push_of_some _ (Heap.get?_push_size _ rfl))))
  show _ ∧ _
  rw [z2, z3, z4] at g5
  rw [z1, z2] at g3
  rw [z3] at g4
  rw [z1] at g2
  rw [z4]
  exact ⟨⟨_, g5, rfl⟩, h _ g5 g3 g4 ⟨_, g1, rfl, rfl⟩ ⟨_, g2, rfl, rfl⟩ zz fun c o x =>
    Heap.get?_push_of_some _ (Heap.get?_push_of_some _ (Heap.get?_push_of_some _ (Heap.get?_push_of_some _ (Heap.get?_push_of_some _ x))))⟩
end
/-- two lists of one length, the items in new pairs -/
def Its (K : PySem.W.Frag) (a b : Addr) : It :=
  ⟨fun i H => ∃ (xs ys : List V) (x y : V), SqL K H a xs ∧ SqL K H b ys ∧ xs[i]? = some x ∧ ys[i]? = some y,
    fun i H v H' => ∃ T x y, v = .ref T ∧ H T = none ∧ H' = upd H T (.tup [x, y]) ∧ (∀ xs, SqL K H a xs → xs[i]? = some x) ∧ ∀ ys, SqL K H b ys → ys[i]? = some y,
    fun i H => ∃ xs ys : List V, SqL K H a xs ∧ SqL K H b ys ∧ xs.length ≤ i ∧ ys.length ≤ i⟩
theorem turn_zs {P : Program} {w : World} {K : PySem.W.Frag} {elts : List Expr} {kk : Nat} {tpos : Pos} {a b z TI TO i1 i2 : Addr} (D : ZipApart z TI TO i1 i2 a b) :
    Turn P w K (.Tuple elts kk tpos) (Its K a b) [z, TI, TO, i1, i2] z (fun i h => IsZs h z TI TO .none ∧ IsPair h TI (.ref i1) (.ref i2) ∧ (∃ x y, IsPair h TO x y) ∧ h.IsListIter i1 a i ∧ h.IsListIter i2 b i) where
  mem := by simp
  obj := fun i h st c hc => by
    obtain ⟨hz, hTI, ⟨x, y, hTO⟩, ⟨o1, e1, _, d1⟩, ⟨o2, e2, _, d2⟩⟩ := st
    have e' : c = z ∨ c = TI ∨ c = TO ∨ c = i1 ∨ c = i2 := by simpa using hc
    rcases e' with q | q | q | q | q
    · rw [q]; exact ⟨_, hz, fun v q => nomatch q⟩
    · rw [q]; exact ⟨_, hTI, fun v q => nomatch q⟩
    · rw [q]; exact ⟨_, hTO, fun v q => nomatch q⟩
    · rw [q]; exact ⟨o1, e1, fun v q => by rw [d1] at q; cases q⟩
    · rw [q]; exact ⟨o2, e2, fun v q => by rw [d2] at q; cases q⟩
  keep := fun i h h' st k => by
    obtain ⟨hz, hTI, ⟨x, y, hTO⟩, h1, h2⟩ := st
    exact ⟨k z (by simp) _ hz, k TI (by simp) _ hTI, ⟨x, y, k TO (by simp) _ hTO⟩, h1.at fun o q => k i1 (by simp) o q, h2.at fun o q => k i2 (by simp) o q⟩
  item := by
    intro X hP hw hK hc i pins s σ H E I hf st hg
    subst hP hw hK
    obtain ⟨hz, hTI, ⟨x0, y0, hTO⟩, h1, h2⟩ := st
    obtain ⟨xs, ys, x, y, hqx, hqy, hx, hy⟩ := hg
    obtain ⟨its, rv, p, _⟩ := I.list hqx
    obtain ⟨its2, rv2, p2, _⟩ := I.list hqy
    obtain ⟨u, hu, ru⟩ := rv.get hx
    obtain ⟨u2, hu2, ru2⟩ := rv2.get hy
    have hzl : z < s.heap.objs.size := Heap.lt_size hz
    refine next_item D hz hTI hTO h1 h2 p.isList p2.isList (x := u) (y := u2) (by simpa using hu) (by simpa using hu2) fun h' z' TO' h1' h2' hT hsz hk => ?_
    refine ⟨_, rfl, letgo (s := { s with heap := h' }) z' fun h'' z'' sb => ?_⟩
    have hT2 : h''.get? s.heap.objs.size = some { cls := .type "tuple", data := .seq #[u, u2] } := (sb.2 _ (Nat.ne_of_gt hzl)).trans hT
    have new : ObjOk X.prog X.w (upd H s.heap.objs.size (.tup [x, y])) h'' s.heap.objs.size (.tup [x, y]) :=
      ⟨by show 2 ≤ sizeLine; decide, [u, u2], .cons ru (.cons ru2 .nil), ⟨_, hT2, rfl, _, rfl⟩⟩
    have I1 : Inv X pins σ (upd H s.heap.objs.size (.tup [x, y])) { s with heap := h'' } :=
      I.turnedNew (t' := s.toks) (ch := [z, TI, TO, i1, i2]) (fun c o hb q => (sb.2 c (fun q' => hb (by simp [q']))).trans (hk c o (fun q' => hb (by simp [q'])) (fun q' => hb (by simp [q'])) (fun q' => hb (by simp [q'])) (fun q' => hb (by simp [q'])) q)) hf (Nat.le_refl _) new
    refine ⟨.ref s.heap.objs.size, _, I1, rfl, ⟨_, x, y, rfl, I.hok.fresh (Nat.le_refl _), rfl, fun l hl => by rw [I.list_inj hl hqx]; exact hx, fun l hl => by rw [I.list_inj hl hqy]; exact hy⟩, ⟨z'', ?_, ⟨u, u2, ?_⟩, ?_, ?_⟩, fun c hcm => ?_⟩
    · exact (sb.2 _ D.TIz).trans (hk _ _ D.TIz D.TITO D.TIi1 D.TIi2 hTI)
    · exact (sb.2 _ D.TOz).trans TO'
    · exact h1'.at fun o q => (sb.2 _ D.i1z).trans q
    · exact h2'.at fun o q => (sb.2 _ D.i2z).trans q
    · have hlt : c < s.heap.objs.size := by
        have e' : c = z ∨ c = TI ∨ c = TO ∨ c = i1 ∨ c = i2 := by simpa using hcm
        rcases e' with q | q | q | q | q
        · rw [q]; exact hzl
        · rw [q]; exact Heap.lt_size hTI
        · rw [q]; exact Heap.lt_size hTO
        · rw [q]; obtain ⟨_, e1, _⟩ := h1; exact Heap.lt_size e1
        · rw [q]; obtain ⟨_, e2, _⟩ := h2; exact Heap.lt_size e2
      rw [upd_ne (Nat.ne_of_lt hlt)]
      exact (hf c hcm).1
  done := by
    intro X hP hw hK hc i pins s σ H E I hf st hg
    subst hP hw hK
    obtain ⟨hz, hTI, ⟨x0, y0, hTO⟩, h1, h2⟩ := st
    obtain ⟨xs, ys, hqx, hqy, q1, q2⟩ := hg
    obtain ⟨its, rv, p, _⟩ := I.list hqx
    obtain ⟨its2, rv2, p2, _⟩ := I.list hqy
    have l1 := rv.length
    have l2 := rv2.length
    exact next_end (I.ok.hd hc) D hz hTI hTO h1 h2 p.isList p2.isList (by simp; omega) (by simp; omega) fun h' hk => ⟨rfl, I.turnedL (t' := s.toks) (ch := [z, TI, TO, i1, i2]) (fun c o hb q =>
      hk c o (fun q' => hb (by simp [q'])) (fun q' => hb (by simp [q'])) (fun q' => hb (by simp [q'])) (fun q' => hb (by simp [q'])) q) hf⟩
  self := fun A i s Q E st h => iter_self st.1 h
def iZipS (K : PySem.W.Frag) (ta : TA) : TI := fun σ H R => ta σ H fun vs H1 => ∃ a b xs ys, vs = [.ref a, .ref b] ∧ SqL K H1 a xs ∧ SqL K H1 b ys ∧ R (Its K a b) H1
theorem callWith_tk {M : Model} {A : Around} {E : Value → Shared → Prop} {s : Shared} {pos : Pos} {T : String} {args : List (Bool × Sem Value)} {keywords : List (Option Str × Sem Value)} {Q : Value → Shared → Prop}
    (hplain : args.any (·.1) = false) (hkw : keywords.any (·.1.isNone) = false)
    (h : wpAny M A (evalArgs (.type T) true args keywords) (fun a s₁ => wpAny M A (call (.type T) a.pos a.kw) Q E s₁) E s) :
    wpAny M A (callWith pos (.type T) [] args keywords) Q E s := by
  unfold callWith
  refine wpAny_bind (wpAny_holding (wpAny_mono h (fun a s₁ h₁ => wpAny_bind (wpAny_standAt ?_)) fun _ _ x => x))
  simp only [hplain, hkw, Bool.or_false]
  refine wpAny_bind (wpAny_pure ?_)
  exact wpAny_bind (wpAny_mono h₁ (fun r s₂ hr => wpAny_bind (wpAny_holding (wpAny_point (wpAny_pure hr)))) fun _ _ x => x)
theorem pi_zipS {X : Cx} {e e2 : Expr} {ta : TA} {p pos tpos kp kp2 : Pos} {k2 : Nat} {elts : List Expr} {kk : Nat} (hg : Gl X "zip") (hm : X.mg "zip" = none) (ha : PA X [e, e2] ta)
    (hs : backTo pos (starEach [e, e2] X.env) = (false, eval e X.env) :: backTo pos (starEach [e2] X.env) := by rfl) (hpl : (backTo pos (starEach [e, e2] X.env)).any (·.1) = false := by rfl) :
    PI X (.Tuple elts kk tpos) (.Call (.Name "zip" p) [e, e2] [⟨some "strict", .Constant (.bool true) k2 kp2, kp⟩] pos) (iZipS X.K ta) := by
  refine ⟨fun pins s σ H R I h => ?_⟩
  refine wpAny_Call_Name_kw (ld_blt I hg hm PyProof.Rows.boot_zip ?_)
  refine callWith_tk hpl (by rfl) ?_
  have hr := ha.run pos pins s σ H _ I h
  rw [hs] at hr ⊢
  refine evalArgs_kwB (by rfl) (thn hr fun us s1 ⟨vs, H1, I1, r1, q1⟩ => ?_)
  refine kws_cons ?_
  refine wpAny_mono (pe_bl.run pins s1 σ H1 (fun v H' => v = .bl true ∧ H' = H1) I1 ⟨rfl, rfl⟩) (fun u s2 hh => ?_) fun _ _ x => x
  obtain ⟨v, H2, I2, ru, ev, eH⟩ := hh
  subst ev
  subst eH
  cases ru
  refine kws_nil ?_
  obtain ⟨a, b, xs, ys, ex, hqx, hqy, q⟩ := q1
  subst ex
  cases r1 with
  | cons r rr =>
    cases rr with
    | cons r' rr =>
      cases rr
      cases r
      cases r'
      obtain ⟨its, rv, p1, _⟩ := I2.list hqx
      obtain ⟨its2, rv2, p2, _⟩ := I2.list hqy
      have la : a < s2.heap.objs.size := p1.lt
      have lb : b < s2.heap.objs.size := p2.lt
      refine call_zs p1.isList p2.isList fun h' hz hTI hTO h1 h2 hsz hk => iter_self hz ?_
      have I3 : Inv X pins σ H2 { s2 with heap := h' } := I2.kept (t' := s2.toks) hk
      refine ⟨s2.heap.objs.size + 4, [s2.heap.objs.size + 4, s2.heap.objs.size + 2, s2.heap.objs.size + 3, s2.heap.objs.size, s2.heap.objs.size + 1], _, _, H2, rfl, I3, turn_zs (PySem.W.ktu_apart s2.heap.objs.size a b la lb), ⟨hz, hTI, ⟨_, _, hTO⟩, h1, h2⟩, fun c hcm => ?_, q⟩
      have e' : c = s2.heap.objs.size + 4 ∨ c = s2.heap.objs.size + 2 ∨ c = s2.heap.objs.size + 3 ∨ c = s2.heap.objs.size ∨ c = s2.heap.objs.size + 1 := by simpa using hcm
      have hle : s2.heap.objs.size ≤ c := by
        rcases e' with z | z | z | z | z
        · rw [z]; exact Nat.le_add_right _ _
        · rw [z]; exact Nat.le_add_right _ _
        · rw [z]; exact Nat.le_add_right _ _
        · rw [z]; exact Nat.le_refl _
        · rw [z]; exact Nat.le_add_right _ _
      exact I2.fpOk hle (I2.hok.fresh hle)
end ZipS
namespace DL
open PySem PySem.Spec PyProof.Rows L2 ZipS
open Evl (Ex)
variable {ρ : Rho} {R : List PyData → Rho → Prop} {ta : TA} {K : PySem.W.Frag}
def zipD (xs ys : List PyData) : List PyData := List.zipWith (fun x y => .tuple [x, y]) xs ys
theorem i_zipS (h : wA ta ρ fun ds ρ1 => ∃ xs ys, ds = [.list xs, .list ys] ∧ xs.length = ys.length ∧ R (zipD xs ys) ρ1) : wI (iZipS K ta) ρ R := fun B G H σ K0 RR q => h B G H σ K0 _ fun vs G1 H1 ρ1 ds S ⟨xs, ys, e, hl, r⟩ d1 => by
  subst e
  obtain ⟨v, w, rfl, dv, dw⟩ := d1.two
  obtain ⟨a, us, rfl, ga, da⟩ := dv.lst'
  obtain ⟨b, ws, rfl, gb, db⟩ := dw.lst'
  refine ⟨a, b, us, ws, rfl, sq_l S.ok.gh ga, sq_l S.ok.gh gb, q _ _ _ _ _ S r fun G' H' eg eh i => ?_⟩
  have sa : SqL K H' a us := sq_l (eg.trans eh) ga
  have sb : SqL K H' b ws := sq_l (eg.trans eh) gb
  have zl : (zipD xs ys).length = xs.length := by
    unfold zipD
    rw [List.length_zipWith, hl, Nat.min_self]
  refine ⟨fun hi => ⟨us, ws, sa, sb, by rw [da.length, ← zl]; exact hi, by rw [db.length, ← hl, ← zl]; exact hi⟩, fun d hd => ?_⟩
  have hi : i < xs.length := by
    rw [← zl]
    exact (List.getElem?_eq_some_iff.mp hd).1
  have h1 : xs[i]? = some xs[i] := List.getElem?_eq_getElem hi
  have h2 : ys[i]? = some (ys[i]'(by rw [← hl]; exact hi)) := List.getElem?_eq_getElem _
  obtain ⟨x, hx, dx⟩ := da.getd h1
  obtain ⟨y, hy, dy⟩ := db.getd h2
  have e : d = .tuple [xs[i], ys[i]'(by rw [← hl]; exact hi)] := by
    unfold zipD at hd
    rw [List.getElem?_zipWith, h1, h2] at hd
    exact (Option.some.inj hd).symm
  refine ⟨⟨us, ws, x, y, sa, sb, hx, hy⟩, fun v H2 ⟨T, x', y', ev, hT, eH, fx, fy⟩ => .inr ⟨T, [x, y], [xs[i], ys[i]'(by rw [← hl]; exact hi)], hT, ?_, ev, e, .cons (dx.mono eg) (.cons (dy.mono eg) .nil)⟩⟩
  have e1 := fx us sa
  have e2 := fy ws sb
  rw [hx] at e1
  rw [hy] at e2
  cases e1
  cases e2
  exact eH
end DL

namespace DL
open PySem PySem.Spec PyProof.Rows L2 ErX
open Evl (Ex)
/-! ### a def that may raise and tells a new list -/
def spRO (n : Nat) (Pre : List PyData → Prop) (Post : List PyData → List PyData → Prop) (Bad : BadT) : Sp := fun vs H Q E => ∃ (G : Hp) (ds : List PyData), Ex G H ∧ DdAll G vs ds ∧ ds.length = n ∧ Pre ds ∧
  (∀ p xs G' H' es, Ex H H' → Ex G G' → Ex G' H' → New G G' H → Post ds es → H' p = some (.lst xs) → G' p = none → H p = none → DdAll G' xs es → Q (.ref p) H') ∧
  ∀ C x v e G' H', Ex H H' → Ex G G' → Ex G' H' → New G G' H → Bad ds C x → Dd G' v x → H' e = none → E (.ref C) (some e) (upd H' e (.xd [("value", v)]))
theorem spRO_len {n : Nat} {Pre : List PyData → Prop} {Post : List PyData → List PyData → Prop} {Bad : BadT} {ps : List Str} (hp : ps.length = n) : ∀ vs H Q E, spRO n Pre Post Bad vs H Q E → vs.length = ps.length := fun vs H Q E ⟨G, ds, _, h, l, _⟩ => by rw [h.length, l, hp]
def RtO (B : Bs) (G : Hp) (D : L2.Ends) (Rt : List PyData → Prop) : Prop := ∀ p xs G' H' σ' ρ' es, Ok B G' H' σ' ρ' → Ex G G' → Rt es → H' p = some (.lst xs) → G' p = none → B.H0 p = none → DdAll G' xs es → D.rt (.ref p) H'
def wXO (W : WX) (Bad : Addr → PyData → Prop) (ts : TS) (ρ : Rho) (Rt : List PyData → Prop) : Prop := ∀ B G H σ, Ok B G H σ ρ → ∀ D : L2.Ends, RtO B G D Rt → ErrFor B G W Bad → ts D σ H
section
variable {W : WX} {Bad : Addr → PyData → Prop} {ρ : Rho} {t u : TS} {te : TE} {ta : TA} {n : Nat} {Rt : List PyData → Prop}
theorem xo_seq (h : wX W Bad t ρ ⟨fun ρ1 => wXO W Bad u ρ1 Rt, fun _ _ => False, fun _ => False, fun _ => False⟩) : wXO W Bad (tSeq t u) ρ Rt := fun B G H σ K D F X =>
  h B G H σ K { D with nx := u D } ⟨fun G1 H1 σ1 ρ1 K1 e1 r1 => r1 B G1 H1 σ1 K1 D (fun p xs G' H' σ' ρ' es a b => F p xs G' H' σ' ρ' es a (e1.trans b)) (X.mono e1), fun _ _ _ _ _ _ _ _ r _ => r.elim, fun _ _ _ _ _ _ r => r.elim, fun _ _ _ _ _ _ r => r.elim⟩ X
theorem xo_ret (h : wO te ρ fun ds _ => Rt ds) : wXO W Bad (tRet te) ρ Rt := fun B G H σ K D F X => h B G H σ K _ fun p xs G1 H1 ρ1 ds S r hp hg hf h0 hn d1 => F p xs G1 H1 σ ρ1 ds S.ok S.ex r hp hg h0 d1
theorem body_RO {n k : Nat} {Pre : List PyData → Prop} {Post : List PyData → List PyData → Prop} {Bad : BadT} {N : List Str} {t : TS} {E : XK} (hN : N.length = n + k) (hw : ∀ ds, ds.length = n → Pre ds → wXO (fun cls d _ H => E cls d H) (Bad ds) t (rho0 ds k) (Post ds)) :
    ∀ vs H Q, spRO n Pre Post Bad vs H Q E → t { nx := fun _ H' => Q .non H', rt := Q } (L2.start N vs) H := fun vs H Q ⟨G, ds, g, h, l, p, q, x⟩ => by
  refine hw ds l p ⟨none, G, H⟩ G H _ (ok_start hN g h l) _ (fun a xs G' H' σ' ρ' es K e r hp hg h0 hd => ?_) fun C y v e G' H' σ' ρ' K ex b hd hn => ?_
  · exact q a xs G' H' es (fun a o z => K.kp a o z (by intro z; cases z)) e K.gh (new_of K) r hp hg h0 hd
  · exact x C y v e G' H' (fun a o z => K.kp a o z (by intro z; cases z)) ex K.gh (new_of K) b hd hn
theorem wO_callR {RO : List PyData → Rho → Prop} {Pre : List PyData → Prop} {Post : List PyData → List PyData → Prop} {BadF : BadT} {E : XK} (h : wA ta ρ fun ds ρ1 => ds.length = n ∧ Pre ds ∧ (∀ C x, ¬ BadF ds C x) ∧ ∀ es, Post ds es → RO es ρ1) : wO (tCall (spRO n Pre Post BadF) [] E ta) ρ RO := fun B G H σ K Q q => h B G H σ K _ fun vs G1 H1 ρ1 ds S1 ⟨l, p, nb, r⟩ d1 => by
  show spRO n Pre Post BadF (vs ++ []) H1 Q E
  rw [List.append_nil]
  refine ⟨G1, ds, S1.ok.gh, d1, l, p, fun a xs G2 H2 es a1 a2 a3 a4 hp hx hg hf hd => ?_, fun C x v e G2 H2 a1 a2 a3 a4 hb hd hn => absurd hb (nb C x)⟩
  have S2 := Stp.step S1.ok a1 a2 a3 a4
  obtain ⟨_, f2, f3, f4⟩ := S1.ok.free0 hf
  have hf0 : H a = none := by
    cases y : H a with
    | none => rfl
    | some u =>
      rw [S1.fr a u y f3] at hf
      cases hf
  exact q a xs G2 H2 ρ1 es (S1.trans S2) (r es hp) hx hg hf0 f2 f4 hd
theorem wO_defK {RO : List PyData → Rho → Prop} {m : Nat} {Pre : List PyData → Prop} {Post : List PyData → List PyData → Prop} {BadF : BadT} {E : XK} (h : wA ta ρ fun ds ρ1 => ds.length = n ∧ m = n ∧ Pre ds.reverse ∧ (∀ C x, ¬ BadF ds.reverse C x) ∧ ∀ es, Post ds.reverse es → RO es ρ1) :
    wO (tCallN 0 m (spRO n Pre Post BadF) (fun _ zs => zs.reverse) E tNil ta) ρ RO := fun B G H σ K Q q => h B G H σ K _ fun vs G1 H1 ρ1 ds S1 ⟨l, em, p, nb, r⟩ d1 => by
  refine ⟨rfl, by rw [d1.length, l, em], G1, ds.reverse, S1.ok.gh, d1.reverse, by rw [List.length_reverse, l], p, fun a xs G2 H2 es a1 a2 a3 a4 hp hx hg hf hd => ?_, fun C x v e G2 H2 a1 a2 a3 a4 hb hd hn => absurd hb (nb C x)⟩
  have S2 := Stp.step S1.ok a1 a2 a3 a4
  obtain ⟨_, f2, f3, f4⟩ := S1.ok.free0 hf
  have hf0 : H a = none := by
    cases y : H a with
    | none => rfl
    | some u =>
      rw [S1.fr a u y f3] at hf
      cases hf
  exact q a xs G2 H2 ρ1 es (S1.trans S2) (r es hp) hx hg hf0 f2 f4 hd
/-- its promise as one that tells data -/
theorem spRO_R {Pre : List PyData → Prop} {Post : List PyData → List PyData → Prop} {BadF : BadT} (vs : List V) (H : Hp) (Q : VK) (E : XK) (h : spR n Pre (fun ds d => ∃ es, d = .list es ∧ Post ds es) BadF vs H Q E) : spRO n Pre Post BadF vs H Q E := by
  obtain ⟨G, ds, g, hd, l, p, q, x⟩ := h
  refine ⟨G, ds, g, hd, l, p, fun a xs G' H' es a1 a2 a3 a4 hp hx hg hf hd' => ?_, x⟩
  have eg : Ex G' (upd G' a (.lst xs)) := Ex.new hg
  refine q (.ref a) (upd G' a (.lst xs)) H' (.list es) a1 (a2.trans eg) (fun b o e => ?_) (fun b o e e' => ?_) ⟨es, rfl, hp⟩ (.lst upd_same (hd'.mono eg))
  · by_cases z : b = a
    · rw [z, upd_same] at e
      rw [z, ← e]
      exact hx
    · rw [upd_ne z] at e
      exact a3 b o e
  · by_cases z : b = a
    · rw [z]
      exact hf
    · rw [upd_ne z] at e
      exact a4 b o e e'
end
end DL

namespace DL
open PySem PySem.Spec PyProof.Rows L2
section
variable {ρ : Rho} {RO : List PyData → Rho → Prop} {R : PyData → Rho → Prop} {wi : TI} {te : TE} {i j : Nat} {α β : Type} {K0 : PySem.W.Frag}
theorem set_no {ρ : Rho} {j : Nat} (hno : ρ[j]? = some .no) : ρ.set j .no = ρ := by
  refine List.ext_getElem? fun k => ?_
  by_cases z : j = k
  · subst z
    rw [List.getElem?_set_self (List.getElem?_eq_some_iff.mp hno).1, hno]
  · rw [List.getElem?_set_ne z]
/-- a map over pairs, both parts named -/
theorem w_map2 (l : List α) (f g : α → PyData) (c : β → PyData) (h : α → β) (hij : i ≠ j) (hni : ρ[i]? = some .no) (hnj : ρ[j]? = some .no) (hz : l.length ≤ sizeLine) (hi : wI wi ρ fun ds' ρ1 => ds' = l.map (fun a => .tuple [f a, g a]) ∧ ρ1 = ρ)
    (he : ∀ a ∈ l, wE te ((ρ.set i (.dat (f a))).set j (.dat (g a))) fun e' ρ' => e' = c (h a) ∧ ρ' = (ρ.set i (.dat (f a))).set j (.dat (g a))) (r : R (.list ((l.map h).map c)) ρ) : wE (tLc wi (gTup K0 2 (gCons (gName i) (gCons (gName j) gNil))) tYes te [i, j]) ρ R := by
  refine w_lc (fun k hk => ?_) fun B G H σ K RR q => hi B G H σ K RR fun J G' H' ρ' ds' S ⟨e1, e2⟩ it => q J G' H' ρ' ds' S ?_ it
  · rcases List.mem_cons.mp hk with z | z
    · rw [z]
      exact hni
    · rw [List.mem_singleton.mp z]
      exact hnj
  · subst ds'
    subst ρ'
    refine ⟨fun i acc ρ' => acc = ((l.take i).map h).map c ∧ ρ' = ρ, ⟨by simp, rfl⟩, fun acc ρ' ⟨a, b⟩ => ?_, fun k d acc ρ' hd ⟨a, b⟩ => ?_⟩
    · rw [a, b, List.length_map, List.take_length]
      exact r
    · subst ρ'
      rw [List.getElem?_map] at hd
      cases q : l[k]? with
      | none =>
        rw [q] at hd
        cases hd
      | some x =>
        rw [q] at hd
        cases hd
        have hx := List.mem_of_getElem? q
        have hil : k < l.length := (List.getElem?_eq_some_iff.mp q).1
        have ht : l.take (k + 1) = l.take k ++ [x] := by
          rw [List.take_succ, q]
          rfl
        refine gc_two hij (w_yes ?_)
        rw [if_pos rfl]
        refine (he x hx).imp fun e' ρ2 ⟨a1, a2⟩ => ?_
        subst e'
        subst ρ2
        refine ⟨?_, ?_, ?_⟩
        · rw [a, List.length_map, List.length_map, List.length_take]
          omega
        · rw [a, ht]
          simp
        · show (((ρ.set i _).set j _).set j .no).set i .no = ρ
          rw [List.set_set, List.set_comm _ _ hij, List.set_set, set_no hnj, set_no hni]
end
theorem zipD_map {α : Type} (l : List α) (f g : α → PyData) : zipD (l.map f) (l.map g) = l.map fun a => .tuple [f a, g a] := by
  unfold zipD
  induction l with
  | nil => rfl
  | cons a l ih => simp [ih]
end DL

namespace DL
open PySem PySem.Spec PyProof.Rows L2
open Evl (Ex)
/-! ### sorted rows of ints -/
def rSortedR : List V → Hp → VK → Prop := fun vs H Q => ∃ (G : Hp) (a : Addr) (rows : List (List Int)), vs = [V.ref a] ∧ Ex G H ∧ Dd G (.ref a) (rl rows) ∧
  ∀ (rows' : List (List Int)) (us : List V) (p : Addr), rows'.Perm rows → rows'.Pairwise (· ≤ ·) → DdAll G us (rows'.map il) → H p = none → Q (.ref p) (upd H p (.lst us))
theorem rows_trans (a b c : List Int × V) (h1 : decide (a.1 ≤ b.1) = true) (h2 : decide (b.1 ≤ c.1) = true) : decide (a.1 ≤ c.1) = true :=
  decide_eq_true (List.le_trans (of_decide_eq_true h1) (of_decide_eq_true h2))
theorem rows_total (a b : List Int × V) : (decide (a.1 ≤ b.1) || decide (b.1 ≤ a.1)) = true := by
  rcases List.le_total a.1 b.1 with h | h <;> simp [h]
theorem each_rows {h : Heap} {s : Shared} {X : Cx} {pins : List (Addr × Obj)} {σ : L2.St} {H G : Hp} (I : Inv X pins σ H s) (e : Ex G H) : ∀ {rows : List (List Int)} {us : List V} {vs : List Value}, DdAll G us (rows.map il) → Vals us vs →
    PySem.W.EachIs (fun v (b : List Int × V) => RelV b.2 v ∧ Dd G b.2 (il b.1)) vs (rows.zip us) ∧ PySem.W.EachIs (fun v (b : List Int × V) => ∃ as, Reads s.heap v (il b.1) as) vs (rows.zip us)
  | [], _, _, d, r => by
    cases d
    cases r
    exact ⟨.nil, .nil⟩
  | x :: rows, _, _, d, r => by
    cases d with
    | cons d1 d2 =>
      cases r with
      | cons r1 r2 =>
        obtain ⟨q1, q2⟩ := each_rows (h := h) I e d2 r2
        have nd : (il x).hasDict = false := noDict_of_lay (SeqAt.canLay_of_shaped (shaped_il x))
        exact ⟨.cons ⟨r1, d1⟩ q1, .cons (Dd.reads I e nd d1 r1) q2⟩
theorem each_out {G : Hp} : ∀ {out : List Value} {bs : List (List Int × V)}, PySem.W.EachIs (fun v (b : List Int × V) => RelV b.2 v ∧ Dd G b.2 (il b.1)) out bs → Vals (bs.map (·.2)) out ∧ DdAll G (bs.map (·.2)) ((bs.map (·.1)).map il)
  | _, _, .nil => ⟨.nil, .nil⟩
  | _, _, .cons h t => by
    obtain ⟨a, b⟩ := each_out t
    exact ⟨.cons h.1 a, .cons h.2 b⟩
theorem cr_sortedR {X : Cx} {k : Nat} (hr : Room k X.A) : CallR X (.builtin "sorted") rSortedR := by
  intro pins s σ H vs us Q I r h
  obtain ⟨G, a, rows, rfl, ex, hd, q⟩ := h
  obtain ⟨a', xs, e1, hg, ha⟩ := hd.lst'
  cases e1
  obtain ⟨its, rv, hl, hz⟩ := I.list (sq_l (K := X.K) ex hg)
  rw [Vals.ref1 r]
  obtain ⟨e, er⟩ := each_rows (h := s.heap) I ex ha rv
  have lxs := ha.length
  rw [List.length_map] at lxs
  refine PySem.W.sorted_data (enc := fun b : List Int × V => il b.1) hl.isList e er (PySem.W.AllAlike.of fun b b' => by simp only [PySem.W.alike]; exact PySem.W.alike_ints _ _) (PySem.W.Sortable.others fun b => ⟨(by intro z; cases z), fun xs z => by cases z⟩) ?_ (fun b _ => ?_) fun out ho eo => ?_
  · rw [List.length_zip]
    have := Nat.min_le_left rows.length xs.length
    omega
  · have := hr.un
    simp only [PyData.depth, PySem.W.depth_ints]
    omega
  · rw [PySem.W.dataLe_rows (fun b : List Int × V => b.1)] at eo
    obtain ⟨v1, d1⟩ := each_out eo
    obtain ⟨ep, he'⟩ := PyProof.Rows.sortedAll_at s.heap its out.toArray
    have pm := List.mergeSort_perm (rows.zip xs) (fun p q => decide (p.1 ≤ q.1))
    have hlen : (((rows.zip xs).mergeSort fun p q => decide (p.1 ≤ q.1)).map (·.2)).length ≤ sizeLine := by
      rw [List.length_map, pm.length_eq, List.length_zip]
      have := Nat.min_le_right rows.length xs.length
      omega
    refine ⟨.ref _, upd H (s.heap.objs.size + 1) (.lst _), I.laid (t' := s.toks) (fun _ _ => PyProof.Rows.sortedAll_old) (Nat.le_succ _) ⟨hlen, out, ep, v1, he'⟩, rfl, q _ _ _ ?_ ?_ d1 (I.hok.fresh (Nat.le_succ _))⟩
    · have := pm.map (·.1)
      rw [List.map_fst_zip (by omega)] at this
      exact this
    · rw [List.pairwise_map]
      exact (List.pairwise_mergeSort rows_trans rows_total _).imp fun h => of_decide_eq_true h
theorem c_sortedR {R : PyData → Prop} {rows : List (List Int)} (r : ∀ rows' : List (List Int), rows'.Perm rows → rows'.Pairwise (· ≤ ·) → R (rl rows')) : CallW rSortedR [rl rows] R := fun B G H σ ρ K0 vs dv Q q => by
  obtain ⟨v, rfl, hv⟩ := dv.one
  obtain ⟨a, xs, rfl, ga, da⟩ := hv.lst'
  refine ⟨G, a, rows, rfl, K0.gh, .lst ga da, fun rows' us p h1 h2 h3 hp => ?_⟩
  have S := Stp.laidF K0 (o := .lst us) hp
  exact q _ _ _ _ S (r rows' h1 h2) (.lst upd_same (h3.mono S.ex))
end DL

namespace DL
open PySem PySem.Spec PyProof.Rows L2
open Evl (Ex)
/-! ### a comprehension with two fors: lists, nothing drawn -/
theorem Ok.blank {B : Bs} {G H : Hp} {σ : L2.St} {ρ : Rho} {j : Nat} (K : Ok B G H σ ρ) (hj : ρ[j]? = some .no) : Ok B G H (σ.set j none) ρ := by
  have at_ : ∀ (k : Nat) (e : Ent) (s : Option V), ρ[k]? = some e → (σ.set j none)[k]? = some s → e = .no ∨ σ[k]? = some s := fun k e s e1 e2 => by
    by_cases z : j = k
    · subst z
      rw [hj] at e1
      exact .inl (Option.some.inj e1).symm
    · rw [List.getElem?_set_ne z] at e2
      exact .inr e2
  refine ⟨K.g0, K.gh, K.nw, K.kp, K.gm, by rw [List.length_set]; exact K.len, fun k e s e1 e2 => ?_, fun k l dk dl a e1 e2 e3 e4 => ?_⟩
  · rcases at_ k e s e1 e2 with q | q
    · rw [q]
      trivial
    · exact K.en k e s e1 q
  · rcases at_ k _ _ e1 e3 with q | q
    · cases q
    · rcases at_ l _ _ e2 e4 with q2 | q2
      · cases q2
      · exact K.ds k l dk dl a e1 e2 q q2
section
variable {ρ : Rho} {R : PyData → Rho → Prop} {wi wi1 : TI} {te : TE} {i j : Nat} {α β : Type}
theorem w_lc2 (l : List α) (inj : α → PyData) (l1 : List β) (inj1 : β → PyData) (h : α → β → PyData) (hij : i ≠ j) (hni : ρ[i]? = some .no) (hnj : ρ[j]? = some .no) (hz : l.length * l1.length ≤ sizeLine)
    (hi : wI wi ρ fun ds' ρ1 => ds' = l.map inj ∧ ρ1 = ρ) (hi1 : ∀ a ∈ l, wI wi1 (ρ.set i (.dat (inj a))) fun ds' ρ1 => ds' = l1.map inj1 ∧ ρ1 = ρ.set i (.dat (inj a)))
    (he : ∀ a ∈ l, ∀ b ∈ l1, wE te ((ρ.set i (.dat (inj a))).set j (.dat (inj1 b))) fun e ρ' => e = h a b ∧ ρ' = (ρ.set i (.dat (inj a))).set j (.dat (inj1 b)))
    (r : R (.list (l.flatMap fun a => l1.map (h a))) ρ) : wE (tLc2 wi (gName i) tYes wi1 (gName j) tYes te [i, j] [j]) ρ R := by
  have hO : wO (tLc2 wi (gName i) tYes wi1 (gName j) tYes te [i, j] [j]) ρ (fun ds ρ' => R (.list ds) ρ') := fun B G H σ K Q q => hi B G H σ K _ fun J G1 H1 ρ1 ds S1 ⟨e1, e2⟩ it D hD => by
    subst ds
    subst ρ1
    obtain ⟨gD, h0D, γD, ownD⟩ := S1.ok.free0 hD
    have hno : ∀ k ∈ [i, j], ρ[k]? = some .no := fun k hk => by
      rcases List.mem_cons.mp hk with z | z
      · rw [z]
        exact hni
      · rw [List.mem_singleton.mp z]
        exact hnj
    have enter : ∀ {G' H' : Hp} {x : V} {d : PyData}, Ok B G' H' σ ρ → Dd G' x d → Ok B G' H' (((wipe σ [i, j])).set i (some x)) (ρ.set i (.dat d)) := fun {G' H' x d} K' hx => by
      show Ok B G' H' (((σ.set j none).set i none).set i (some x)) (ρ.set i (.dat d))
      rw [List.set_set]
      exact (K'.blank hnj).setD hx
    have w2 : ∀ x : V, wipe ((wipe σ [i, j]).set i (some x)) [i, j] = wipe σ [i, j] := fun x => by
      show ((((σ.set j none).set i none).set i (some x)).set j none).set i none = (σ.set j none).set i none
      rw [List.set_set, List.set_comm _ _ hij, List.set_set, List.set_set]
    have w3 : ∀ x y : V, wipe ((wipe ((wipe σ [i, j]).set i (some x)) [j]).set j (some y)) [i, j] = wipe σ [i, j] := fun x y => by
      show (((((((σ.set j none).set i none).set i (some x)).set j none).set j (some y)).set j none).set i none) = (σ.set j none).set i none
      rw [List.set_set, List.set_set, List.set_set, List.set_comm _ _ hij, List.set_set, List.set_set]
    have wr2 : ∀ d : PyData, wipeR (ρ.set i (.dat d)) [i, j] = ρ := fun d => by
      show ((ρ.set i (.dat d)).set j .no).set i .no = ρ
      rw [List.set_comm _ _ hij, List.set_set, set_no hnj, set_no hni]
    have wr3 : ∀ d d' : PyData, wipeR ((ρ.set i (.dat d)).set j (.dat d')) [i, j] = ρ := fun d d' => by
      show (((ρ.set i (.dat d)).set j (.dat d')).set j .no).set i .no = ρ
      rw [List.set_set, List.set_comm _ _ hij, List.set_set, set_no hnj, set_no hni]
    have out2 : ∀ (d : PyData) (k : Nat), k ∉ [i, j] → (ρ.set i (.dat d))[k]? = ρ[k]? := fun d k hk => by
      rw [List.getElem?_set_ne (fun z => hk (by rw [z]; simp))]
    have out3 : ∀ (d d' : PyData) (k : Nat), k ∉ [i, j] → ((ρ.set i (.dat d)).set j (.dat d'))[k]? = ρ[k]? := fun d d' k hk => by
      rw [List.getElem?_set_ne (fun z => hk (by rw [z]; simp)), List.getElem?_set_ne (fun z => hk (by rw [z]; simp))]
    have dn : ∀ {G' G2 H' H2 : Hp} {av : List V} {σ' : L2.St} {ρ' ρ'' : Rho}, Stp B σ' ρ' G' H' G2 H2 ρ'' → H' D = some (.lst av) → G' D = none → H2 D = some (.lst av) ∧ G2 D = none := fun {G' G2 H' H2 av σ' ρ' ρ''} S hv hg => by
      refine ⟨S.fr D _ hv γD, ?_⟩
      cases y : G2 D with
      | none => rfl
      | some u =>
        have := S.nw D u y hg
        rw [hv] at this
        cases this
    let st : List PyData → Hp → Prop := fun want H' => ∃ G' av, Stp B σ ρ G1 H1 G' H' ρ ∧ H' D = some (.lst av) ∧ G' D = none ∧ DdAll G' av want
    refine ⟨fun n m H' => m = l.length - n ∧ n ≤ l.length ∧ st ((l.take n).flatMap fun a => l1.map (h a)) H', ⟨_, rfl, Nat.zero_le _, G1, [], Stp.laid S1.ok hD, upd_same, gD, .nil⟩, fun n m H' ⟨em, hn, G', av, S, hv, hg, da⟩ => ?_⟩
    by_cases z : n = l.length
    · subst z
      refine .inl ⟨(it G' H' S.ex S.ok.gh _).1 (by rw [List.length_map]; exact Nat.le_refl _), ?_⟩
      have hf : H D = none := by
        cases y : H D with
        | none => rfl
        | some u =>
          rw [S1.fr D u y γD] at hD
          cases hD
      rw [List.take_length] at da
      exact q D av G' H' ρ _ (S1.trans S) r hv hg hf h0D (S.ow ownD) da
    · have hlt : n < l.length := by omega
      have hln : l[n]? = some l[n] := List.getElem?_eq_getElem hlt
      have hla : l[n] ∈ l := List.getElem_mem hlt
      have htk : l.take (n + 1) = l.take n ++ [l[n]] := by
        rw [List.take_succ, hln]
        rfl
      obtain ⟨go, yl⟩ := (it G' H' S.ex S.ok.gh n).2 (inj l[n]) (by rw [List.getElem?_map, hln]; rfl)
      refine .inr ⟨go, st ((l.take (n + 1)).flatMap fun a => l1.map (h a)), fun H2 h2 => ⟨l.length - (n + 1), by omega, rfl, by omega, h2⟩, fun x H2 y => ?_⟩
      obtain ⟨G2, S2, d2⟩ := (yl x H2 y).stp S.ok
      refine ⟨w2 x, ?_⟩
      simp only [tYes, ↓reduceIte]
      refine hi1 l[n] hla B G2 H2 _ (enter S2.ok d2) _ fun J1 G3 H3 ρ3 es S3 ⟨ee, eρ⟩ it1 => ?_
      subst es
      subst ρ3
      have S3' : Stp B σ ρ G2 H2 G3 H3 ρ := by
        have := Stp.leave S2.ok hno (w2 x) (out2 _) S3
        rw [wr2] at this
        exact this
      have T := S2.trans S3'
      obtain ⟨hv3, hg3⟩ := dn T hv hg
      refine ⟨fun c k H' => k = l1.length - c ∧ c ≤ l1.length ∧ ∃ G', Ex G3 G' ∧ ∃ av, Stp B σ ρ G1 H1 G' H' ρ ∧ H' D = some (.lst av) ∧ G' D = none ∧ DdAll G' av (((l.take n).flatMap fun a => l1.map (h a)) ++ (l1.take c).map (h l[n])), ⟨_, rfl, Nat.zero_le _, G3, Ex.refl _, av, S.trans T, hv3, hg3, by rw [List.take_zero, List.map_nil, List.append_nil]; exact da.mono T.ex⟩, ?_⟩
      rintro c k H4 ⟨ek, hc, G4, e34, av4, S4, hv4, hg4, da4⟩
      by_cases zc : c = l1.length
      · subst zc
        refine .inl ⟨(it1 G4 H4 e34 S4.ok.gh _).1 (by rw [List.length_map]; exact Nat.le_refl _), G4, av4, S4, hv4, hg4, ?_⟩
        rw [htk, List.flatMap_append]
        rw [List.take_length] at da4
        simpa using da4
      · have hclt : c < l1.length := by omega
        have hcn : l1[c]? = some l1[c] := List.getElem?_eq_getElem hclt
        have hcb : l1[c] ∈ l1 := List.getElem_mem hclt
        obtain ⟨go1, yl1⟩ := (it1 G4 H4 e34 S4.ok.gh c).2 (inj1 l1[c]) (by rw [List.getElem?_map, hcn]; rfl)
        refine .inr ⟨go1, fun H' => ∃ G', Ex G3 G' ∧ ∃ av, Stp B σ ρ G1 H1 G' H' ρ ∧ H' D = some (.lst av) ∧ G' D = none ∧ DdAll G' av (((l.take n).flatMap fun a => l1.map (h a)) ++ (l1.take (c + 1)).map (h l[n])), fun H' h' => ⟨l1.length - (c + 1), by omega, rfl, by omega, h'⟩, fun x2 H5 y2 => ?_⟩
        obtain ⟨G5, S5, d5⟩ := (yl1 x2 H5 y2).stp S4.ok
        refine ⟨by show wipe ((wipe ((wipe σ [i, j]).set i (some x)) [j]).set j (some x2)) [j] = wipe ((wipe σ [i, j]).set i (some x)) [j]; show ((((wipe σ [i, j]).set i (some x)).set j none).set j (some x2)).set j none = ((wipe σ [i, j]).set i (some x)).set j none; rw [List.set_set, List.set_set], ?_⟩
        simp only [tYes, ↓reduceIte]
        have d2' : Dd G5 x (inj l[n]) := d2.mono ((S3'.ex.trans e34).trans S5.ex)
        have K5 := (enter S5.ok d2').setD (i := j) d5
        have K5' : Ok B G5 H5 ((wipe ((wipe σ [i, j]).set i (some x)) [j]).set j (some x2)) ((ρ.set i (.dat (inj l[n]))).set j (.dat (inj1 l1[c]))) := by
          show Ok B G5 H5 ((((wipe σ [i, j]).set i (some x)).set j none).set j (some x2)) _
          rw [List.set_set]
          exact K5
        refine he l[n] hla l1[c] hcb B G5 H5 _ K5' _ fun v G6 H6 ρ6 e S6 ⟨ee, eρ⟩ d6 => ?_
        subst e
        subst ρ6
        have S6' : Stp B σ ρ G5 H5 G6 H6 ρ := by
          have := Stp.leave S5.ok hno (w3 x x2) (out3 _ _) S6
          rw [wr3] at this
          exact this
        have T2 := S5.trans S6'
        obtain ⟨hv6, hg6⟩ := dn T2 hv4 hg4
        have len4 : av4.length < sizeLine := by
          rw [da4.length, List.length_append, List.length_flatMap, List.length_map, List.length_take]
          have e : ((l.take n).map fun a => (l1.map (h a)).length) = (l.take n).map fun _ => l1.length := by simp
          rw [e]
          have e2 : ((l.take n).map fun _ => l1.length).sum = n * l1.length := by
            rw [List.map_const', List.sum_replicate_nat, List.length_take, Nat.min_eq_left hn]
          rw [e2, Nat.min_eq_left hc]
          have : (n + 1) * l1.length ≤ l.length * l1.length := Nat.mul_le_mul_right _ hlt
          rw [Nat.succ_mul] at this
          omega
        refine ⟨av4, hv6, len4, G6, (e34.trans S5.ex).trans S6'.ex, av4 ++ [v], Stp.poke S1.ok (S4.trans T2) hD hg6, upd_same, hg6, ?_⟩
        have : (l1.take (c + 1)).map (h l[n]) = (l1.take c).map (h l[n]) ++ [h l[n] l1[c]] := by
          rw [List.take_succ, hcn, List.map_append]
          rfl
        rw [this, ← List.append_assoc]
        exact (da4.mono T2.ex).append (.cons d6 .nil)
  exact hO.fr fun _ _ r => r
end
end DL

namespace DL
open PySem PySem.Spec PyProof.Rows L2
open Evl (Ex)
theorem DdAll.erase {G : Hp} : ∀ {us : List V} {es : List PyData} (n : Nat), DdAll G us es → DdAll G (us.eraseIdx n) (es.eraseIdx n)
  | _, _, _, .nil => .nil
  | _, _, 0, .cons _ t => t
  | _, _, n + 1, .cons h t => .cons h (DdAll.erase n t)
/-! ### the generator -/
def Ent.ng (e : Ent) : Prop := ∀ g, e ≠ .gen g
def One (ρ : Rho) (i : Nat) : Prop := ∀ (j : Nat) (gj : Int × Int × Int), ρ[j]? = some (.gen gj) → j = i
theorem one0 {g : Int × Int × Int} {l : Rho} (h : ∀ e ∈ l, Ent.ng e) : One (.gen g :: l) 0 := fun j gj e => by
  cases j with
  | zero => rfl
  | succ j =>
    rw [List.getElem?_cons_succ] at e
    exact absurd rfl (h _ (List.mem_of_getElem? e) gj)
theorem ng_dat {d : PyData} : Ent.ng (.dat d) := fun _ z => by cases z
theorem ng_own {d : List PyData} : Ent.ng (.own d) := fun _ z => by cases z
theorem ng_no : Ent.ng .no := fun _ z => by cases z
section
variable {ρ : Rho} {R : PyData → Rho → Prop} {P : Po} {te : TE} {i : Nat} {K0 : PySem.W.Frag} {g : Int × Int × Int}
theorem w_genix {k : Int} {v : V} {d : PyData} (hd : ∀ G, Dd G v d) (h : ρ[i]? = some (.gen g)) (hk : atI (genV g) k = some v) (r : R d ρ) : wE (tOp (rIx K0) (tVar i) (tC (.int k))) ρ R := fun B G H σ K Q q => by
  obtain ⟨s, hs, γ, es, hγ, hg⟩ := K.slot h
  refine ⟨.ref γ, by rw [hs, es], .inl ⟨γ, genV g, k, v, rfl, rfl, .inl (.inl hg), hk, q v G H ρ d (Stp.refl K) r (hd G)⟩⟩
theorem w_g0 (h : ρ[i]? = some (.gen g)) (r : R (.int g.1) ρ) : wE (tOp (rIx K0) (tVar i) (tC (.int 0))) ρ R := w_genix (fun _ => .int _) h (by simp [genV, atI, ixN]) r
theorem w_g1 (h : ρ[i]? = some (.gen g)) (r : R (.int g.2.1) ρ) : wE (tOp (rIx K0) (tVar i) (tC (.int 1))) ρ R := w_genix (fun _ => .int _) h (by simp [genV, atI, ixN]) r
theorem w_g2 (h : ρ[i]? = some (.gen g)) (r : R (.int g.2.2) ρ) : wE (tOp (rIx K0) (tVar i) (tC (.int 2))) ρ R := w_genix (fun _ => .int _) h (by simp [genV, atI, ixN]) r
theorem gset {B : Bs} {G H : Hp} {σ : L2.St} {γ : Addr} {g' : Int × Int × Int} (K : Ok B G H σ ρ) (h : ρ[i]? = some (.gen g)) (hγ : B.gp = some γ) (one : One ρ i) : Ok B G (upd H γ (.lst (genV g'))) σ (ρ.set i (.gen g')) := by
  have gn := (K.gm γ hγ).1
  refine (Stp.stepG (G' := G) (H' := upd H γ (.lst (genV g'))) K h hγ (fun a o e z => ?_) upd_same gn one (Ex.refl G) (fun a o e => ?_) (fun a o e e' => ?_)).ok
  · rw [upd_ne z]
    exact e
  · rw [upd_ne (fun z => by rw [z, gn] at e; cases e)]
    exact K.gh a o e
  · rw [e'] at e
    cases e
/-- generator[k] = e -/
theorem s_genk {k : Int} {j : Nat} (hj : ixN 3 k = some j) (h : wE te ρ fun d ρ1 => ∃ (v : Int) (g g' : Int × Int × Int), d = .int v ∧ ρ1[i]? = some (.gen g) ∧ One ρ1 i ∧ (genV g).set j (.int v) = genV g' ∧ P.nx (ρ1.set i (.gen g'))) : wS (tAsg te (gSub (tVar i) (tC (.int k)) rSetL)) ρ P := fun B G H σ K D F =>
  h B G H σ K _ fun v G1 H1 ρ1 d S ⟨n, g, g', ed, hg, one, e, r⟩ d1 => by
    subst ed
    obtain ⟨s, hs, γ, es, hγ, hH⟩ := S.ok.slot hg
    refine ⟨.ref γ, by rw [hs, es], γ, genV g, k, j, rfl, rfl, hH, hj, ?_⟩
    rw [d1.int', e]
    exact F.nx G1 _ σ _ (gset S.ok hg hγ one) S.ex r
theorem s_gen0 (h : wE te ρ fun d ρ1 => ∃ (v : Int) (g : Int × Int × Int), d = .int v ∧ ρ1[i]? = some (.gen g) ∧ One ρ1 i ∧ P.nx (ρ1.set i (.gen (v, g.2)))) : wS (tAsg te (gSub (tVar i) (tC (.int 0)) rSetL)) ρ P :=
  s_genk (j := 0) (by simp [ixN]) (h.imp fun d ρ1 ⟨v, g, a, b, c, r⟩ => ⟨v, g, (v, g.2), a, b, c, rfl, r⟩)
theorem s_gen2 (h : wE te ρ fun d ρ1 => ∃ (v : Int) (g : Int × Int × Int), d = .int v ∧ ρ1[i]? = some (.gen g) ∧ One ρ1 i ∧ P.nx (ρ1.set i (.gen (g.1, g.2.1, v)))) : wS (tAsg te (gSub (tVar i) (tC (.int 2)) rSetL)) ρ P :=
  s_genk (j := 2) (by simp [ixN]) (h.imp fun d ρ1 ⟨v, g, a, b, c, r⟩ => ⟨v, g, (g.1, g.2.1, v), a, b, c, rfl, r⟩)
/-- found.append(left.pop(k)) -/
theorem s_popapp {a b : Nat} {da db : List PyData} (hab : a ≠ b) (ha : ρ[a]? = some (.own da)) (hb : ρ[b]? = some (.own db)) (h : wE te ρ fun d ρ1 => ∃ (j : Nat) (x : PyData), d = .int (j : Int) ∧ da[j]? = some x ∧ (j : Int) < 2 ^ 63 ∧ db.length < sizeLine ∧ P.nx ((ρ1.set a (.own (da.eraseIdx j))).set b (.own (db ++ [x])))) :
    wS (tDrop (tBM K0 "list" rAppend (tVar b) (tCons (tBM K0 "list" rPopAt (tVar a) (tCons te tNil)) tNil))) ρ P := fun B G H σ K D F => by
  obtain ⟨s, hs, q, ys, es, hq, hgq, h0q, hdq⟩ := K.slot hb
  refine ⟨.ref q, by rw [hs, es], .inl ⟨rfl, ys, .inl (.inl hq)⟩, ?_⟩
  obtain ⟨s2, hs2, p, xs, es2, hp, hgp, h0p, hdp⟩ := K.slot ha
  refine ⟨.ref p, by rw [hs2, es2], .inl ⟨rfl, xs, .inl (.inl hp)⟩, ?_⟩
  refine h B G H σ K _ fun v G1 H1 ρ1 d S ⟨j, x, ed, hx, hj, hz, r⟩ d1 => ?_
  subst ed
  have ha1 := S.own ha
  have hb1 := S.own hb
  obtain ⟨s3, hs3, p', xs', es3, hp', hgp', h0p', hdp'⟩ := S.ok.slot ha1
  rw [hs2, es2] at hs3
  subst es3
  cases hs3
  obtain ⟨y, hy, dy⟩ := hdp'.getd hx
  have jl : j < xs'.length := (List.getElem?_eq_some_iff.mp hy).1
  have sq : seqIndex? (j : Int) xs'.length = some j := by
    obtain ⟨j', e1, e2, _⟩ := atI_get (L2.atI_nat hy)
    rw [e1]
    congr 1
    have := ixN_seq (n := xs'.length) (i := (j : Int)) (j := j) (Evl.ixN_nat jl)
    rw [e1] at this
    exact Option.some.inj this.1
  refine ⟨p, xs', (j : Int), j, y, rfl, by rw [d1.int'], hp', by omega, hj, sq, hy, ?_⟩
  have K1 := S.ok.poke ha1 (by rw [hs2, es2]) (ds' := da.eraseIdx j) (xs := xs'.eraseIdx j) (DdAll.erase j hdp')
  have hb2 : (ρ1.set a (.own (da.eraseIdx j)))[b]? = some (.own db) := by
    rw [List.getElem?_set_ne hab]
    exact hb1
  obtain ⟨s4, hs4, q', ys', es4, hq', hgq', h0q', hdq'⟩ := K1.slot hb2
  rw [hs, es] at hs4
  subst es4
  cases hs4
  refine ⟨q, ys', y, rfl, rfl, hq', by rw [hdq'.length]; exact hz, F.nx G1 _ σ _ ?_ S.ex r⟩
  exact K1.poke hb2 (by rw [hs, es]) (hdq'.append (.cons dy .nil))
end
end DL

namespace DL
open PySem PySem.Spec PyProof.Rows L2
open Evl (Ex)
def CPowW (i j : Int) : Prop := 0 ≤ j ∧ (Builtin.Int.intBits i : Int) * j ≤ 2 ^ 27
theorem op_powW {X : Cx} : OpR X (binaryOp .Pow) (rI CPowW fun i j => .int (i ^ j.toNat)) := opI fun _ _ _ _ _ _ _ hc q => pow_int hc.1 hc.2 q
theorem o_powW {i j : Int} {RR : PyData → Prop} (hc : CPowW i j) (h : RR (.int (i ^ j.toNat))) : OpW (rI CPowW fun i j => .int (i ^ j.toNat)) (.int i) (.int j) RR := o_I (fun _ => .int _) hc h
theorem o_eqS {x y : Str} {RR : PyData → Prop} (h : RR (.bool (decide (x = y)))) : OpW L2.rEq (.str x) (.str y) RR := OpW.flat (fun _ => .bl _) h fun B G H σ ρ K vx vy dx dy Q q => by
  rw [dx.str', dy.str']
  refine ⟨rfl, ?_⟩
  have : decide (V.str x = V.str y) = decide (x = y) := by
    by_cases z : x = y
    · rw [decide_eq_true z, decide_eq_true (by rw [z])]
    · rw [decide_eq_false z, decide_eq_false (by intro e; cases e; exact z rfl)]
  rw [this]
  exact q
theorem o_neS {x y : Str} {RR : PyData → Prop} (h : RR (.bool (!decide (x = y)))) : OpW L2.rNe (.str x) (.str y) RR := OpW.flat (fun _ => .bl _) h fun B G H σ ρ K vx vy dx dy Q q => by
  rw [dx.str', dy.str']
  refine ⟨rfl, ?_⟩
  have : decide (V.str x = V.str y) = decide (x = y) := by
    by_cases z : x = y
    · rw [decide_eq_true z, decide_eq_true (by rw [z])]
    · rw [decide_eq_false z, decide_eq_false (by intro e; cases e; exact z rfl)]
  rw [this]
  exact q
/-! ### the script: a list of ints that was there -/
def isScr (K : PySem.W.Frag) (ns : List Int) (gp : Option Addr) (H : Hp) (s : Option V) : Prop := gp = none ∧ ∃ a, s = some (.ref a) ∧ SqL K H a (ns.map V.int)
def spCel (K : PySem.W.Frag) : Sp := fun vs H Q _ => ∃ (a : Addr) (ns : List Int) (i : Nat), vs = [.ref a, .int i] ∧ SqL K H a (ns.map V.int) ∧ ns.length ≤ 1000 ∧ ∀ r H', Ex H H' → Q (.int r) H'
theorem spCel_len {K : PySem.W.Frag} {ps : List Str} (h : ps.length = 2) : ∀ vs H Q E, spCel K vs H Q E → vs.length = ps.length := fun vs H Q E ⟨a, ns, i, e, _⟩ => by rw [e, h]; rfl
section
variable {ρ : Rho} {R : PyData → Rho → Prop} {K : PySem.W.Frag} {i j : Nat} {E : XK}
theorem sq_keep {H H' : Hp} {a : Addr} {xs : List V} (h : SqL K H a xs) (k : ∀ o, H a = some o → H' a = some o) : SqL K H' a xs := by
  rcases h with (q | ⟨o, q⟩) | q
  · exact .inl (.inl (k _ q))
  · exact .inl (.inr ⟨o, k _ q⟩)
  · exact .inr q
/-- script[..] by the law's cell -/
theorem w_cell {ns : List Int} {n : Nat} (h : ρ[i]? = some (.raw (isScr K ns))) (hj : ρ[j]? = some (.dat (.int (n : Int)))) (hn : ns.length ≤ 1000) (r : ∀ x, R (.int x) ρ) : wE (tCall (spCel K) [] E (tCons (tVar i) (tCons (tVar j) tNil))) ρ R := fun B G H σ K0 Q q => by
  obtain ⟨s, hs, gn, a, es, hq⟩ := K0.slot h
  obtain ⟨s2, hs2, v, es2, hv⟩ := K0.slot hj
  refine ⟨.ref a, by rw [hs, es], v, by rw [hs2, es2], a, ns, n, by rw [hv.int']; rfl, sq_keep hq fun o e => K0.kp a o e (by rw [gn]; simp), hn, fun x H' ex => ?_⟩
  exact q (.int x) G H' ρ (.int x) (Stp.step K0 ex (Ex.refl G) (fun b o e => ex _ _ (K0.gh b o e)) (fun b o e e' => by rw [e'] at e; cases e)) (r x) (.int _)
end
/-! ### a generator that was just made -/
theorem Stp.stepP {B : Bs} {G H G1 H1 G2 H2 : Hp} {σ : L2.St} {ρ ρ1 : Rho} {p : Addr} (S : Stp B σ ρ G H G1 H1 ρ1) (hf : H p = none) (h1 : ∃ o, H1 p = some o) (hg1 : G1 p = none) (h0 : B.H0 p = none) (hn : NotOwn σ ρ1 p) (eh : ∀ a o, H1 a = some o → a ≠ p → H2 a = some o) (gg : G2 p = none) (eg : Ex G1 G2) (egh : Ex G2 H2) (n : New G1 G2 H1) : Stp B σ ρ G H G2 H2 ρ1 := by
  have K := S.ok
  have hγ : B.gp ≠ some p := fun z => by
    obtain ⟨_, _, ⟨o, q⟩⟩ := K.gm p z
    rw [h0] at q
    cases q
  have gn : ∀ a o, G1 a = none → H1 a = some o → G2 a = none := fun a o h1 h2 => by
    cases q : G2 a with
    | none => rfl
    | some u =>
      have z := n a u q h1
      rw [h2] at z
      cases z
  have hb0 : ∀ a, H1 a = none → B.H0 a = none := fun a h => (K.free0 h).2.1
  refine ⟨⟨fun a o e => eg a o (K.g0 a o e), egh, fun a o e q => ?_, fun a o e q => ?_, fun a e => ?_, K.len, fun i e s e1 e2 => ?_, K.ds⟩, S.ex.trans eg, fun a o e q => ?_, S.es, fun a o e e' => ?_⟩
  · cases z : G1 a with
    | some u => exact K.nw a u z q
    | none => exact hb0 a (n a o e z)
  · exact eh a o (K.kp a o e q) (fun z => by rw [z, h0] at e; cases e)
  · obtain ⟨q1, ⟨o, q2⟩, q3⟩ := K.gm a e
    have na : a ≠ p := fun z => hγ (by rw [← z]; exact e)
    exact ⟨gn a o q1 q2, ⟨o, eh a o q2 na⟩, q3⟩
  · have k := K.en i e s e1 e2
    cases e with
    | no => trivial
    | raw φ => exact k
    | dat d =>
      obtain ⟨v, h1, h2⟩ := k
      exact ⟨v, h1, h2.mono eg⟩
    | own ds =>
      obtain ⟨a, xs, h1, h2, h3, h4, h5⟩ := k
      have na : a ≠ p := fun y => hn i ds e1 (by rw [e2, h1, y])
      exact ⟨a, xs, h1, eh a _ h2 na, gn a _ h3 h2, h4, h5.mono eg⟩
    | gen g =>
      obtain ⟨a, h1, h2, h3⟩ := k
      have na : a ≠ p := fun z => hγ (by rw [← z]; exact h2)
      exact ⟨a, h1, h2, eh a _ h3 na⟩
  · refine eh a o (S.fr a o e q) (fun z => ?_)
    rw [z, hf] at e
    cases e
  · cases q : G1 a with
    | some u => exact S.nw a u q e'
    | none =>
      have z := n a o e q
      cases y : H a with
      | none => rfl
      | some u =>
        by_cases g : B.gp = some a
        · obtain ⟨_, ⟨o', w⟩, _⟩ := K.gm a g
          rw [z] at w
          cases w
        · have := S.fr a u y g
          rw [z] at this
          cases this
/-- a call with a generator just made -/
theorem w_callN {ρ : Rho} {R : PyData → Rho → Prop} {te : TE} {Pre : Int × Int × Int → List PyData → Prop} {Post : Int × Int × Int → List PyData → PyData → Int × Int × Int → Prop} {E : XK}
    (h : wO te ρ fun ds ρ1 => ∃ g : Int × Int × Int, ds = [.int g.1, .int g.2.1, .int g.2.2] ∧ Pre g [] ∧ ∀ d g', Post g [] d g' → R d ρ1) : wE (tCall (spG 0 Pre Post) [] E (tCons te tNil)) ρ R := fun B G H σ K Q q => h B G H σ K _ fun p xs G1 H1 ρ1 ds S ⟨g, eds, hp, r⟩ hx hg hf h0 hn d1 => by
  subst eds
  have ex : xs = genV g := by
    cases d1 with
    | cons a d1 =>
      obtain ⟨v, w, rfl, b, c⟩ := d1.two
      rw [a.int', b.int', c.int']
      rfl
  subst ex
  refine ⟨p, [], G1, g, [], rfl, S.ok.gh, hg, hx, .nil, rfl, hp, fun v G2 H2 d g' a1 a2 a3 a4 a5 a6 hpo hd => ?_⟩
  exact q v G2 H2 ρ1 d (Stp.stepP S hf ⟨_, hx⟩ hg h0 hn a1 a3 a4 a5 a6) (r d g' hpo) hd
end DL

namespace ClX
open PySem PySem.Spec PyProof.Rows L2 PySem.W LamX ErX
section
variable {X : Cx} {pins : List (Addr × Obj)} {σ : L2.St} {H : Hp} {s s1 : Shared} {cs : Addr → Option Obj}
/-- as CX_repin; the heap at the exception tracks none of the pinned cells -/
theorem CX_repin2 {P : Program} {w : World} {outer : List Env} {H' : Hp} {E : XK} {e : Value} {s' : Shared} (hcs : ∀ b o, cs b = some o → H' b = some (pinO o b)) (hin : CsIn cs s.heap) (hfr : ∀ b ∈ frs outer, H' b = none)
    (c : L2.CX P w outer (mask cs H') s (fun cls d H2 => (∀ b o, cs b = some o → H2 b = none) → E cls d (over cs H2)) e s') : L2.CX P w outer H' s E e s' := by
  obtain ⟨a, B, H2, cls, d, rfl, fl, hok, ub, na, os, ag, hE⟩ := c
  have nfr : ∀ b o, cs b = some o → b ∉ frs outer := fun b o q hm => by
    have z := hfr b hm
    rw [hcs b o q] at z
    cases z
  have n2 : ∀ b o, cs b = some o → H2 b = none := fun b o q => ub.free b o (hin b o q) (mask_some q)
  exact CX_repin hcs hin hfr ⟨a, B, H2, cls, d, rfl, fl, hok, ub, na, os, ag, hE n2⟩
/-- as clo_of -/
theorem clo_of2 {f c' : Addr} {params : Arguments} {body : Expr} {scope : Scope} {pm ctv : Value} {k : Nat} {t : XK → TE} (ok : X.Ok) (CO : CellsOk X σ cs) (hcs : ∀ b o, cs b = some o → H b = some (pinO o b))
    (hf : H f = some (pinO (lamObj X params body scope pm c' ctv) f)) (hc : H c' = some (CodeO c' (X.env.qual ++ "<lambda>"))) (L : LamS X.env.scope scope)
    (hbind : bindArgs (PySem.W.kla_fn "<lambda>" (X.env.qual ++ "<lambda>") params body scope (cloFrom X.env.cells scope.names []) pm (.ref c') ctv) ⟨[], []⟩ = pure [])
    (hbody : ∀ (A : Around) (outer : List Env) (s : Shared) (H : Hp) (E : XK), Room k (A.deeper (lamEnv X scope s.heap.objs.size f c')) → PE (lamCx X A outer s H E scope f c') body (t E)) :
    CloOk X.prog X.w X.K X.mg X.base (k + 1) H f (fun E H' Q => t (fun cls d H2 => (∀ b o, cs b = some o → H2 b = none) → E cls d (over cs H2)) σ (mask cs H') fun v H2 => Q v (over cs H2)) := by
  refine ⟨⟨_, _, hf, rfl, rfl, rfl, rfl⟩, fun A outer s H' Q E hr e0 x ht => ?_⟩
  have of1 := pinO_at e0.hok (x _ _ hf)
  obtain ⟨⟨oc, vs, tk0, hoc, hdc, hvc⟩, _, _⟩ := e0.hok c' _ (x _ _ hc)
  have hcs' : ∀ b o, cs b = some o → H' b = some (pinO o b) := fun b o q => x _ _ (hcs b o q)
  have hin : CsIn cs s.heap := fun b o q => pinO_at e0.hok (hcs' b o q)
  have e1 : Env0 X.prog X.w X.K X.mg X.base A outer s (mask cs H') := ⟨e0.frames, e0.mod, fun b o e => ⟨(e0.bs b o e).1, mask_free (e0.bs b o e).2⟩, e0.bsz, e0.funs, fun b hb => mask_free (e0.frf b hb), HOk.mask e0.hok hcs', e0.bare⟩
  have lim : s.heap.NoLimit := e0.mod.nolimit.keeps fun b o e => (e0.bs b o e).1
  refine PySem.W.kla_callFunE hr.depth of1 rfl L.co L.gen rfl ⟨c', oc, vs, tk0, rfl, hoc, hdc, hvc⟩ ?_
  rw [hbind]
  refine wpAny_pure (wpAny_newFunctionEnv (fun y hy => (L.own y hy).2) (fun y hy => absurd hy (by simp)) (fun h₁ hns hsb => ⟨lim.fresh _ hsb, ?_⟩) L.kind)
  show codeAny _ _ (.expr body (lamEnv X scope s.heap.objs.size f c')) _ _
  have kp : ∀ b o, s.heap.get? b = some o → h₁.get? b = some o := fun b o e => hsb.extBut b o (Nat.ne_of_lt (Heap.lt_size e)) (Heap.get?_push_of_some _ e)
  have J : Inv (lamCx X A outer s (mask cs H') (fun cls d H2 => (∀ b o, cs b = some o → H2 b = none) → E cls d (over cs H2)) scope f c') [] σ (mask cs H') { s with heap := h₁, toks := s.toks + ([] : List (Str × Value)).length } :=
    lam_inv ok.inj ok.has L e1 hr.hd CO (fun b o q => ⟨hin b o q, mask_some q⟩) hns kp
  refine PySem.W.kla_codeExpr (wpAny_mono ((hbody _ _ s (mask cs H') (fun cls d H2 => (∀ b o, cs b = some o → H2 b = none) → E cls d (over cs H2)) (hr.deeper _)).run [] _ _ (mask cs H') _ J ht) (fun v s' hq => ?_) fun e s' hq => ?_)
  · obtain ⟨w', H2, J', rv, q⟩ := hq
    have nfr : ∀ b o, cs b = some o → b ∉ frs outer := fun b o q hm => by
      have z := e0.frf b hm
      rw [hcs' b o q] at z
      cases z
    have in2 : CsIn cs s'.heap := fun b o q => J'.base.keep b o (hin b o q) (mask_some q) (nfr b o q) (fun z => nomatch (show b ∈ ([] : List Addr) from z))
    have n2 : ∀ b o, cs b = some o → H2 b = none := fun b o q => J'.base.free b o (hin b o q) (mask_some q) (fun z => nomatch (show b ∈ ([] : List Addr) from z))
    exact ⟨w', over cs H2, J'.os, J'.bare, Un.repin J'.base hcs', HOk.over J'.hok in2 n2, rv, q⟩
  · exact wpAny_mono hq (fun _ s'' z => CX_repin2 hcs' hin e0.frf z) fun _ s'' z => CX_repin2 hcs' hin e0.frf z
/-- x() in a try: what it raises is wished for at the slots as they stand -/
theorem pe_cloS {i k : Nat} {a : Str} {W : WX} {p1 p2 : Pos} (tk : Takes X W) (hr : Room k X.A) (hN : X.N[i]? = some a) (hv : Vis X.env.scope a) (hd : (a == ("__debug__" : Str)) = false := by decide) (hcd : (a == ("__classdict__" : Str)) = false := by decide) :
    PE X (.Call (.Name a p1) [] [] p2) (fun σ H Q => ∃ (f : Addr) (tl : XK → Hp → VK → Prop), σ[i]? = some (some (.ref f)) ∧ CloOk X.prog X.w X.K X.mg X.base k H f tl ∧ tl (fun cls d H' => W cls d σ H') H Q) := by
  refine ⟨fun pins s σ H Q I h => ?_⟩
  obtain ⟨f, tl, hs, C, ht⟩ := h
  refine wpAny_Call_Name_kw (thn ((pe_var (pos := p1) (i := i) hN hv hd hcd).run pins s σ H (fun v H1 => v = .ref f ∧ H1 = H) I ⟨.ref f, hs, rfl, rfl⟩) fun u s1 ⟨v, H1, I1, r1, q1⟩ => ?_)
  obtain ⟨ev, eH⟩ := q1
  subst ev
  rw [eH] at I1
  obtain rfl : u = Value.ref f := r1
  obtain ⟨o, fd, h1, h2, h3, h4, h5⟩ := C.fn
  have of1 := pinO_at I1.hok h1
  obtain ⟨oc, od, oda, osl⟩ := o
  dsimp only at h2 h3 h4 h5
  subst h2 h3 h4 h5
  refine PySem.W.callWith_F0 ⟨_, _, _, _, of1⟩ ?_
  have hx := passAt tk σ
  refine wpAny_call (codeAny_mono (C.run X.A X.stack s1 H Q _ hr I1.env0 (ExtK.refl H) ht) fun r s' hq => ?_)
  cases r with
  | error e => exact hx pins H s1 e s' I1 hq
  | ok fl =>
    cases fl with
    | ret u => exact I1.after hq
    | next => exact False.elim hq
    | brk => exact False.elim hq
    | cont => exact False.elim hq
end
end ClX
namespace DL
open PySem PySem.Spec PyProof.Rows L2 ClX
/-! ### defs that call repr: no repr is under way around them -/
structure FnG (P : Program) (w : World) (K : PySem.W.Frag) (mg : Str → Option Value) (base : Heap) (k : Nat) (f : Addr) (fd : FuncData) (ps : List Str) (sp : Sp) : Prop where
  len : ∀ vs H Q E, sp vs H Q E → vs.length = ps.length
  run : ∀ (A : Around) (outer : List Env) (s : Shared) (H : Hp) (args : Args) (us : List Value) (vs : List V) (Q : VK) (E : XK), A.guards = some [] → Room k A → Env0 P w K mg base A outer s H → BindsTo s fd args (ps.zip us) → Vals vs us → sp vs H Q E →
    codeAny (model P w) A (.call (.ref f) args) (CR L2.CX0 outer P w H s Q E) s
def DfG (P : Program) (w : World) (K : PySem.W.Frag) (mg : Str → Option Value) (base : Heap) (k : Nat) (x : Str) (ps : List Str) (sp : Sp) : Prop :=
  ∃ f fd, FnG P w K mg base k f fd ps sp ∧ mg x = some (.ref f) ∧ PySem.W.keepIn K (.ref f) = true ∧ Binds K fd ps []
section
variable {X : Cx} {k j : Nat} {x : Str} {ps : List Str} {sp : Sp} {e : Expr} {es : List Expr} {t : TA} {p pos : Pos}
theorem pe_defG (D : DfG X.prog X.w X.K X.mg X.base k x ps sp) (hgd : X.A.guards = some []) (hr : Room j X.A) (hkj : k ≤ j) (ha : PA X (e :: es) t) (hg : Gl X x := by rfl) (hdb : (x == ("__debug__" : Str)) = false := by decide)
    (he : starEach (e :: es) X.env = (false, eval e X.env) :: starEach es X.env := by rfl) (hpl : (backTo pos (starEach es X.env)).any (·.1) = false := by rfl) : PE X (.Call (.Name x p) (e :: es) [] pos) (tCall sp [] E0 t) := by
  obtain ⟨f, fd, F, hm, hk, hb⟩ := D
  refine ⟨fun pins s σ H Q I h => ?_⟩
  refine wpAny_Call_Name_kw (ld_glob I hg hm ?_ hdb)
  refine PySem.W.callWith_K (h₀ := X.base) I.ok.mod.kin hk (thn (ha.run pos pins s σ H _ I h) fun us s1 ⟨vs, H1, I1, r, q⟩ => ⟨I1.kIn, ?_⟩) he hpl
  have q : sp (vs ++ []) H1 Q E0 := q
  rw [List.append_nil] at q
  have hl : us.length = ps.length := by rw [← r.length]; exact F.len _ _ _ _ q
  have hb1 := hb s1 us I1.kIn (by rw [List.append_nil]; exact hl)
  rw [List.append_nil] at hb1
  refine wpAny_call (codeAny_mono (F.run X.A X.stack s1 H1 ⟨us, []⟩ us vs Q E0 hgd (hr.mono hkj) I1.env0 hb1 r q) fun r s' hq => ?_)
  cases r with
  | error e => exact False.elim hq
  | ok fl =>
    cases fl with
    | ret u => exact I1.after hq
    | next => exact False.elim hq
    | brk => exact False.elim hq
    | cont => exact False.elim hq
/-- the same with the cells of this frame pinned while the callee runs -/
theorem pe_defGC (D : DfG X.prog X.w X.K X.mg X.base k x ps sp) (hgd : X.A.guards = some []) (hr : Room j X.A) (hkj : k ≤ j) (hfn : ∀ y, X.fn y = true) (ha : PA X (e :: es) t) (hg : Gl X x := by rfl) (hdb : (x == ("__debug__" : Str)) = false := by decide)
    (he : starEach (e :: es) X.env = (false, eval e X.env) :: starEach es X.env := by rfl) (hpl : (backTo pos (starEach es X.env)).any (·.1) = false := by rfl) : PE X (.Call (.Name x p) (e :: es) [] pos) (tCallC X sp [] t) := by
  obtain ⟨f, fd, F, hm, hk, hb⟩ := D
  refine ⟨fun pins s σ H Q I h => ?_⟩
  refine wpAny_Call_Name_kw (ld_glob I hg hm ?_ hdb)
  refine PySem.W.callWith_K (h₀ := X.base) I.ok.mod.kin hk (thn (ha.run pos pins s σ H _ I h) fun us s1 ⟨vs, H1, I1, r, q⟩ => ⟨I1.kIn, ?_⟩) he hpl
  obtain ⟨CO, hin, n⟩ := cells_ok I1
  have hq := q _ I1.ok CO n
  rw [List.append_nil] at hq
  have hl : us.length = ps.length := by rw [← r.length]; exact F.len _ _ _ _ hq
  have hb1 := hb s1 us I1.kIn (by rw [List.append_nil]; exact hl)
  rw [List.append_nil] at hb1
  have e0 := I1.env0
  have e1 : Env0 X.prog X.w X.K X.mg X.base X.A X.stack s1 (over (csOf X.env.cells s1.heap) H1) := ⟨e0.frames, e0.mod, fun b o e => ⟨(e0.bs b o e).1, ?_⟩, e0.bsz, e0.funs, fun b hb => ?_, HOk.over e0.hok hin n, e0.bare⟩
  · refine wpAny_call (codeAny_mono (F.run X.A X.stack s1 _ ⟨us, []⟩ us vs _ _ hgd (hr.mono hkj) e1 hb1 r hq) fun r s' hr' => ?_)
    cases r with
    | error e => exact False.elim hr'
    | ok fl =>
      cases fl with
      | ret u =>
        obtain ⟨v, H2, os, bare, un, hok, rv, hp, q2⟩ := hr'
        have in2 : CsIn (csOf X.env.cells s1.heap) s'.heap := fun b o z => pinO_at hok (hp b o z)
        exact ⟨v, _, I1.call' os (Un.unpin un n in2 hin) (HOk.mask hok hp) bare (fun _ z => nomatch z), rv, q2⟩
      | next => exact False.elim hr'
      | brk => exact False.elim hr'
      | cont => exact False.elim hr'
  · cases z : csOf X.env.cells s1.heap b with
    | none =>
      rw [over_none z]
      exact (e0.bs b o e).2
    | some o' =>
      exfalso
      obtain ⟨⟨y, hy⟩, _⟩ := csOf_at z
      have h1 := I1.ok.cab y b (hfn y) hy
      exact absurd (Nat.lt_of_lt_of_le (Heap.lt_size e) (Nat.le_trans I1.ok.bsz h1)) (Nat.lt_irrefl _)
  · cases z : csOf X.env.cells s1.heap b with
    | none =>
      rw [over_none z]
      exact e0.frf b hb
    | some o' =>
      exfalso
      obtain ⟨⟨y, hy⟩, _⟩ := csOf_at z
      rcases List.mem_cons.mp (I1.stkSub b hb) with q | q
      · exact I1.cne y b hy q
      · obtain ⟨_, o, ho, _⟩ := I1.ok.funs.mem q
        exact absurd (Nat.lt_of_lt_of_le (Heap.lt_size ho) (I1.ok.cab y b (hfn y) hy)) (Nat.lt_irrefl _)
end
/-- such a def by its body; the def's own code object is told -/
theorem dfg_of {P : Program} {w : World} {K : PySem.W.Frag} {mg : Str → Option Value} {base : Heap} {x : Str} {st : Stmt} {N ps : List Str} {k : Nat} {sp : Sp} (F : FunAt K mg x st) (S : FnScope N ps (defScope st)) (len : ∀ vs H Q E, sp vs H Q E → vs.length = ps.length)
    (hb : ∀ (oc : Value) (kV doc pm : Value) (an : Option Addr) (cdv ct : Value) (us : List Value), us.length = ps.length → bindArgs (PySem.W.fnOf x x (defArgs st) (defBody st) (defScope st) .none kV doc pm an cdv ct) ⟨us, []⟩ = pure (ps.zip us))
    (hbody : ∀ (f : Addr) (cdv : Value) (A : Around) (outer : List Env) (s : Shared) (H : Hp) (E : XK), A.guards = some [] → Room k (A.deeper (envOfC x (defScope st) s.heap.objs.size f cdv)) →
      ∃ t, PSs (cxOf L2.CX0 P w K mg base N x (defScope st) f cdv A outer s H E) (defBody st) t ∧ ∀ vs Q, sp vs H Q E → t { nx := fun _ H' => Q .non H', rt := Q } (L2.start N vs) H) : DfG P w K mg base (k + 1) x ps sp := by
  obtain ⟨f, fd, F, hm⟩ := F
  refine ⟨f, fd, ?_, hm, F.kp, F.binds (ps := ps) (hb .none)⟩
  obtain ⟨oc, od, kV, doc, pm, an, cdv, ct, osl, rfl, lk, hcd⟩ := F.ex
  refine ⟨len, fun A outer s H args us vs Q E hg hr e0 hbd r hsp => ?_⟩
  refine LamX.run_ofS lk hcd S hr e0 hbd r (len _ _ _ _ hsp) fun hr' => ?_
  obtain ⟨t, h1, h2⟩ := hbody f cdv A outer s H E hg hr'
  exact ⟨t, h1, h2 vs Q hsp⟩
end DL

namespace DL
open PySem PySem.Spec PyProof.Rows L2 ErX
open Evl (Ex)
/-- a kept error of class C, its value stands for d -/
def Held (C : Addr) (d : PyData) (G H : Hp) (x : V) : Prop := ∃ a e v, x = .ref a ∧ H a = some (heldO a (.ref C) (some e)) ∧ H e = some (.xd [("value", v)]) ∧ Dd G v d
def heldF (C : Addr) (d : PyData) (G1 : Hp) (gp : Option Addr) (H0 : Hp) (s : Option V) : Prop := gp = none ∧ Ex G1 H0 ∧ ∃ x, s = some x ∧ Held C d G1 H0 x
section
variable {ρ : Rho} {R : PyData → Rho → Prop} {K : PySem.W.Frag} {i : Nat} {C : Addr} {d : PyData} {G1 : Hp} {c : V} {cv : Value} {b : Bool}
theorem w_isHeld (h : ρ[i]? = some (.raw (heldF C d G1))) (cC : ExcC K C) (k : ClsV c cv) (e : PySem.W.kitOne K (.ref C) cv = some b) (r : R (.bool b) ρ) : wE (tCB (rIsH K) (tCons (tVar i) (tCons (tC c) tNil))) ρ R := fun B G H σ K0 Q q => by
  obtain ⟨s, hs, gn, gx, x, es, a, e, v, ex, ha, he, dv⟩ := K0.slot h
  refine ⟨.ref a, by rw [hs, es, ex], .inr ⟨a, C, some e, c, cv, b, rfl, K0.kp a _ ha (by rw [gn]; simp), fun dd z => ?_, cC, k, by assumption, q _ G H ρ _ (Stp.refl K0) r (.bl _)⟩⟩
  cases z
  exact ⟨_, K0.kp e _ he (by rw [gn]; simp)⟩
theorem w_reprHeld (h : ρ[i]? = some (.raw (heldF C d G1))) (xc : XfC K C) (hno : PySem.W.findIn K (.ref C) "value" = some none) (ht : ty 3 d = true) (r : R (.str d.shown) ρ) : wE (tCB rRepr (tCons (tHFld K "value" (tVar i)) tNil)) ρ R := fun B G H σ K0 Q q => by
  obtain ⟨s, hs, gn, gx, x, es, a, e, v, ex, ha, he, dv⟩ := K0.slot h
  have kp : Ex B.H0 H := fun b o e => K0.kp b o e (by rw [gn]; simp)
  have t := ty_f 3 d ht
  refine ⟨.ref a, by rw [hs, es, ex], a, C, e, _, v, rfl, kp _ _ ha, xc, hno, kp _ _ he, rfl, ?_⟩
  refine ⟨G1, v, d, rfl, gx.trans kp, dv, noDict_of_lay t.lay, t.show_, by have := t.dep; omega, ?_, q _ G H ρ _ (Stp.refl K0) r (.str _)⟩
  have h1 := PyData.shown_le 45 (by decide) d t.short
  have h2 : d.weight ≤ 243804 := Nat.le_trans t.wt (by decide)
  rw [sizeLine_eq]
  omega
end
end DL

namespace DL
open PySem PySem.Spec PyProof.Rows L2 LamX ErX ClX
open Evl (Ex)
/-- a def of the module whose own code object is known -/
def FunAtC (K : PySem.W.Frag) (mg : Str → Option Value) (x : Str) (st : Stmt) (c : Addr) : Prop := ∃ f, (∃ (oc : Value) (od : Option Addr) (kV doc pm : Value) (an : Option Addr) (ct : Value) (osl : Array (Option Value)), K.lookup f = some ⟨oc, od, .func (PySem.W.fnOf x x (defArgs st) (defBody st) (defScope st) .none kV doc pm an (.ref c) ct), osl⟩ ∧ PySem.W.codeIn K (.ref c) x = true) ∧ PySem.W.keepIn K (.ref f) = true ∧ mg x = some (.ref f)
theorem FunAtC.at {K : PySem.W.Frag} {mg : Str → Option Value} {x : Str} {st : Stmt} {c : Addr} (h : FunAtC K mg x st c) : FunAt K mg x st := by
  obtain ⟨f, ⟨oc, od, kV, doc, pm, an, ct, osl, lk, hc⟩, hk, hm⟩ := h
  exact ⟨f, _, ⟨⟨oc, od, kV, doc, pm, an, .ref c, ct, osl, rfl, lk, hc⟩, hk⟩, hm⟩
/-- such a def by its body -/
theorem dfg_ofC {P : Program} {w : World} {K : PySem.W.Frag} {mg : Str → Option Value} {base : Heap} {x : Str} {st : Stmt} {N ps : List Str} {k : Nat} {sp : Sp} {c : Addr} (F : FunAtC K mg x st c) (S : FnScope N ps (defScope st)) (len : ∀ vs H Q E, sp vs H Q E → vs.length = ps.length)
    (hb : ∀ (oc : Value) (kV doc pm : Value) (an : Option Addr) (cdv ct : Value) (us : List Value), us.length = ps.length → bindArgs (PySem.W.fnOf x x (defArgs st) (defBody st) (defScope st) .none kV doc pm an cdv ct) ⟨us, []⟩ = pure (ps.zip us))
    (hbody : ∀ (f : Addr) (A : Around) (outer : List Env) (s : Shared) (H : Hp) (E : XK), A.guards = some [] → Room k (A.deeper (envOfC x (defScope st) s.heap.objs.size f (.ref c))) →
      ∃ t, PSs (cxOf L2.CX0 P w K mg base N x (defScope st) f (.ref c) A outer s H E) (defBody st) t ∧ ∀ vs Q, sp vs H Q E → t { nx := fun _ H' => Q .non H', rt := Q } (L2.start N vs) H) : DfG P w K mg base (k + 1) x ps sp := by
  obtain ⟨f, ⟨oc, od, kV, doc, pm, an, ct, osl, lk, hcd⟩, hk, hm⟩ := F
  have FF : Fun K x x st f _ := ⟨⟨oc, od, kV, doc, pm, an, .ref c, ct, osl, rfl, lk, hcd⟩, hk⟩
  refine ⟨f, _, ?_, hm, hk, FF.binds (ps := ps) (hb .none)⟩
  refine ⟨len, fun A outer s H args us vs Q E hg hr e0 hbd r hsp => ?_⟩
  refine LamX.run_ofS lk hcd S hr e0 hbd r (len _ _ _ _ hsp) fun hr' => ?_
  obtain ⟨t, h1, h2⟩ := hbody f A outer s H E hg hr'
  exact ⟨t, h1, h2 vs Q hsp⟩
end DL

/-! The end of a law whose defs make lambdas (one table) and call repr. -/
namespace DL
open PySem PySem.Spec PyProof.Rows L2 LamX
section
variable {P : Program} {w : World} {K : PySem.W.Frag} {mg mb : Str → Option Value} {k : Nat} {fa a c tab : Addr} {x y : Str} {sp : Sp} {s : Shared} {vs : List Value} {ns : List Int}
abbrev scrO (vs : List Value) : Obj := { cls := .type "list", data := .seq vs.toArray }
abbrev tabO : Obj := { cls := .none, data := .fields #[] }
open Classical in
/-- what the law's call starts from: the script, locked, and one table -/
noncomputable def heap0 (K : PySem.W.Frag) (a tab : Addr) (lo : Obj) (xs : List V) : Hp := fun b => if b = tab then some (.tbl #[]) else if b = a ∧ K.lookup a = none then some (.frz lo (.lst xs)) else none
theorem heap0_tab {lo : Obj} {xs : List V} : heap0 K a tab lo xs tab = some (.tbl #[]) := if_pos rfl
theorem heap0_some {lo : Obj} {xs : List V} {b : Addr} {u : HO} (h : heap0 K a tab lo xs b = some u) : (b = tab ∧ u = .tbl #[]) ∨ (b = a ∧ K.lookup a = none ∧ u = .frz lo (.lst xs)) := by
  unfold heap0 at h
  split at h
  · rename_i z
    exact .inl ⟨z, (Option.some.inj h).symm⟩
  · split at h
    · rename_i z
      exact .inr ⟨z.1, z.2, (Option.some.inj h).symm⟩
    · cases h
structure At0 (P : Program) (w : World) (K : PySem.W.Frag) (mg mb : Str → Option Value) (s : Shared) (c tab a : Addr) (vs : List Value) (ns : List Int) : Prop where
  kx : K.In s.heap
  glob : s.heap.Ns mainGlobals mg
  blt : s.heap.Ns builtinsNs mb
  bb : ∀ x : Str, x ≠ "__name__" → mb x = bootBuiltins x
  lim : s.heap.NoLimit
  gens : s.gens = #[]
  tb : s.heap.get? tab = some tabO
  nt : K.lookup tab = none
  cd : PySem.W.CodeHd s.heap c tab
  bmain : ∃ (bm : Addr) (ob : Obj), mg "__builtins__" = some (.ref bm) ∧ bm ≠ builtinsNs ∧ s.heap.get? bm = some ob ∧ ob.cls = .type "module" ∧ ob.dict = some builtinsNs ∧ ob.data = .plain
  scr : s.heap.get? a = some (scrO vs)
  ia : IntsAre vs ns
  fw : ns.length ≤ sizeLine
theorem dict_scr {o : Obj} {es : Array DictEntry} {ep : Nat} (d : o.data = .dict es ep) : o ≠ scrO vs ∧ o ≠ tabO := by
  refine ⟨fun z => ?_, fun z => ?_⟩
  · rw [z] at d
    cases d
  · rw [z] at d
    cases d
variable (A : At0 P w K mg mb s c tab a vs ns)
include A
theorem At0.ne : a ≠ tab := fun z => by
  have h := A.scr
  rw [z, A.tb] at h
  have h2 : tabO.data = (scrO vs).data := congrArg Obj.data (Option.some.inj h)
  cases h2
theorem At0.vals : Vals (ns.map V.int) vs := vals_ints A.ia
/-- an object that is neither a text's list nor a table is not tracked -/
theorem At0.out {b : Addr} {o : Obj} (e : s.heap.get? b = some o) (h1 : o ≠ scrO vs) (h2 : o ≠ tabO) : heap0 K a tab (scrO vs) (ns.map V.int) b = none := by
  cases q : heap0 K a tab (scrO vs) (ns.map V.int) b with
  | none => rfl
  | some u =>
    rcases heap0_some q with ⟨z, _⟩ | ⟨z, _, _⟩
    · subst z
      exact absurd (Option.some.inj (e.symm.trans A.tb)) h2
    · subst z
      exact absurd (Option.some.inj (e.symm.trans A.scr)) h1
theorem At0.hok : HOk P w (heap0 K a tab (scrO vs) (ns.map V.int)) s.heap := fun b u e => by
  rcases heap0_some e with ⟨rfl, rfl⟩ | ⟨rfl, _, rfl⟩
  · exact A.tb
  · exact ⟨A.scr, by rw [List.length_map]; exact A.fw, vs, 0, A.vals, A.scr⟩
theorem At0.sq : SqL K (heap0 K a tab (scrO vs) (ns.map V.int)) a (ns.map V.int) := by
  cases hk : K.lookup a with
  | none =>
    refine .inl (.inr ⟨scrO vs, ?_⟩)
    unfold heap0
    rw [if_neg A.ne, if_pos ⟨rfl, hk⟩]
  | some o =>
    have e := A.kx a o hk
    rw [A.scr] at e
    cases e
    exact .inr ⟨_, vs.toArray, _, hk, rfl, rfl, rfl, by rw [List.size_toArray, A.ia.length]; exact A.fw, by simpa using A.vals⟩
theorem At0.kin : K.In (hidT s.heap (heap0 K a tab (scrO vs) (ns.map V.int))) := fun b o e => by
  refine hidT_get (A.kx b o e) ?_
  cases q : heap0 K a tab (scrO vs) (ns.map V.int) b with
  | none => rfl
  | some u =>
    rcases heap0_some q with ⟨rfl, _⟩ | ⟨rfl, z, _⟩
    · rw [A.nt] at e
      cases e
    · rw [z] at e
      cases e
theorem At0.nsk {b : Addr} {m : Str → Option Value} (h : s.heap.Ns b m) : (hidT s.heap (heap0 K a tab (scrO vs) (ns.map V.int))).Ns b m := by
  obtain ⟨o, es, ep, e, d, r⟩ := h
  exact ⟨o, es, ep, hidT_get e (A.out e (dict_scr (vs := vs) d).1 (dict_scr (vs := vs) d).2), d, r⟩
theorem At0.mod : L2.Mod K mg (hidT s.heap (heap0 K a tab (scrO vs) (ns.map V.int))) := ⟨A.kin, A.nsk A.glob, ⟨mb, A.nsk A.blt, A.bb⟩, by
  obtain ⟨mc, h1, h2⟩ := A.lim
  exact ⟨mc, A.nsk h1, h2⟩⟩
theorem At0.tabB : TabB (hidT s.heap (heap0 K a tab (scrO vs) (ns.map V.int))) mg c tab := by
  refine ⟨?_, ?_, fun z => ?_⟩
  · obtain ⟨o, us, file, tf, flags, tg, inF, text, tt, e1, r1, r2, r3, r⟩ := A.cd
    refine ⟨o, us, file, tf, flags, tg, inF, text, tt, hidT_get e1 (A.out e1 (fun z => ?_) fun z => ?_), r1, r2, r3, r⟩
    · rw [z] at r2
      cases r2
    · rw [z] at r2
      cases r2
      simp at r3
  · obtain ⟨bm, ob, b1, b2, b3, b4, b5, b6⟩ := A.bmain
    refine ⟨bm, ob, b1, b2, fun q => ?_, fun q => ?_, hidT_get b3 (A.out b3 (fun z => ?_) fun z => ?_), b4, b5, b6⟩
    · obtain ⟨o, es, ep, e, hd, _⟩ := A.glob
      have : ob = o := Option.some.inj (b3.symm.trans (by rw [q]; exact e))
      rw [← this, b6] at hd
      cases hd
    · have : ob = tabO := Option.some.inj (b3.symm.trans (by rw [q]; exact A.tb))
      rw [this] at b6
      cases b6
    · rw [z] at b6
      cases b6
    · rw [z] at b6
      cases b6
  · obtain ⟨o, es, ep, e, hd, _⟩ := A.glob
    have : o = tabO := Option.some.inj (e.symm.trans (by rw [z]; exact A.tb))
    rw [this] at hd
    cases hd
theorem At0.env0 : Env0 P w K mg (hidT s.heap (heap0 K a tab (scrO vs) (ns.map V.int))) callerA [] s (heap0 K a tab (scrO vs) (ns.map V.int)) :=
  ⟨rfl, A.mod, fun b o e => of_hidT e, Nat.le_of_eq (hidT_size _ _), trivial, fun b hb => absurd (show b ∈ ([] : List Addr) from hb) (by simp), A.hok, .of_eq A.gens⟩
/-- the law's call -/
theorem At0.call (hr : Room k callerA) (hfa : mg y = some (.ref fa)) (F : ∀ base : Heap, K.In base → base.Ns mainGlobals mg → TabB base mg c tab → DfG P w K mg base k y [x] sp)
    (hsp : ∀ H : Hp, H tab = some (.tbl #[]) → SqL K H a (ns.map V.int) → sp [.ref a] H (fun v _ => v = .bl true) fun _ _ _ => False) :
    codeAny (model P w) callerA (.call (.ref fa) ⟨[.ref a], []⟩) (fun r s' => r = .ok (.ret (.bool true)) ∧ OldK s.heap s'.heap ∧ s'.os = s.os ∧ AllBare s'.gens) s := by
  obtain ⟨f, fd, F, hm, _, hb⟩ := F _ A.kin (A.nsk A.glob) A.tabB
  obtain rfl : fa = f := by
    have := Option.some.inj (hfa.symm.trans hm)
    injection this
  refine codeAny_mono (F.run callerA [] s _ ⟨[.ref a], []⟩ [.ref a] [.ref a] _ _ rfl hr A.env0 (hb s [.ref a] A.kx rfl) (.cons rfl .nil) (hsp _ heap0_tab A.sq)) fun r s' h => ?_
  match r, h with
  | .ok (.ret u), ⟨v, H', os, bare, un, hok', r', q⟩ =>
    have q : v = .bl true := q
    subst q
    obtain rfl : u = Value.bool true := r'
    have grown : ∃ more : Array Value, s'.heap.get? tab = some { cls := .none, data := .fields more } := by
      obtain ⟨more, z⟩ := un.tbls tab #[] heap0_tab
      exact ⟨_, hok' tab _ z⟩
    have key : ∀ b o, b ≠ tab → s.heap.get? b = some o → s'.heap.get? b = some o := fun b o nb e => by
      cases q : heap0 K a tab (scrO vs) (ns.map V.int) b with
      | none => exact un.keep b o e q (by intro z; exact absurd (show b ∈ ([] : List Addr) from z) (by simp)) (by simp)
      | some u =>
        rcases heap0_some q with ⟨z, _⟩ | ⟨z, _, z2⟩
        · exact absurd z nb
        · subst z2
          have y := (hok' b _ (un.frzs b _ _ q)).1
          rw [z] at e y ⊢
          rw [A.scr] at e
          rw [y]
          exact e
    refine ⟨rfl, ⟨fun b o e => ?_, fun b o e => ?_⟩, os, bare⟩
    · by_cases hb : b = tab
      · subst hb
        obtain ⟨more, hm⟩ := grown
        have : o = tabO := Option.some.inj (e.symm.trans A.tb)
        subst this
        exact .inr (.inl ⟨(A.cd.tab A.tb).isCodeTable, rfl, #[], more, rfl, by rw [Array.empty_append]; exact hm⟩)
      · exact .inl (key b o hb e)
    · by_cases hb : b = tab
      · subst hb
        obtain ⟨more, hm⟩ := grown
        exact ⟨_, hm⟩
      · exact ⟨o, key b o hb e⟩
end
/-- what is known of the law's promise at the head's heap h -/
def LawG (l : PySem.W.OpenLaw) (w : World) (K : PySem.W.Frag) (k n : Nat) (y x : Str) (mg : Str → Option Value) (h : Heap) : Prop :=
  ∃ (c tab : Addr) (sp : Sp), h.get? tab = some tabO ∧ K.lookup tab = none ∧ PySem.W.CodeHd h c tab ∧
    (∀ (H : Hp) (a : Addr) (ns : List Int), ns.length ≤ n → H tab = some (.tbl #[]) → SqL K H a (ns.map V.int) → sp [.ref a] H (fun v _ => v = .bl true) fun _ _ _ => False) ∧
    ∀ base : Heap, K.In base → base.Ns mainGlobals mg → TabB base mg c tab → DfG l.prog w K mg base k y [x] sp
/-- the tables of the defs that the walk sees are empty -/
def OwnTabs (q : Program) (K : PySem.W.Frag) (mg : Str → Option Value) (h : Heap) : Prop := ∀ (x : Str) (f : Addr), ((recsOf q).any fun e => e.name == x) = true → mg x = some (.ref f) → OwnTab K f h
theorem walkG {l : PySem.W.OpenLaw} {n k : Nat} {q : Program} {loose : List Str} {XP : (Str → Option Value) → Heap → Prop} {YP : World → Heap → Prop} {d : DefRec} {K : Params → PySem.W.Frag} {x : Str} (hn : l.most = some n) (hn2 : n ≤ sizeLine) (hdf : d.params.defaults = []) (hr : Room k callerA)
    (hY : ∀ (w : World) (h : Heap), YP w h → (K w.params).In h)
    (F : ∀ (w : World) (mg : Str → Option Value) (fa : Addr) (h : Heap), YP w h → (K w.params).In h → h.Ns mainGlobals mg → mg d.name = some (.ref fa) → OwnTabs q (K w.params) mg h → LawG l w (K w.params) k n d.name x mg h) :
    PySem.W.WalkO q loose XP YP l.row.toRowW d [] (fun f vs => PySem.call f vs) := by
  refine Att.attach_callB hn hdf fun w s₀ s mg mb fa o pm cd doc a vs ns G Y ho hd hcd hmg hobj hints hlen hbits hg => ?_
  have KX := hY w _ Y
  have own : OwnTabs q (K w.params) mg s.heap := fun y f hy hf c t o1 fd1 e dd us sl k1 k2 k3 k4 k5 => by
    obtain ⟨dL, hm, he⟩ := List.any_eq_true.mp hy
    obtain ⟨a', o', fd', c', P', h1, h2, h3, h4, h5, ⟨oc, vc, e1, _, e3, e4⟩, hP⟩ := G.T.tab dL hm
    rw [beq_iff_eq.mp he, hf] at h1
    cases h1
    cases h2.symm.trans (KX _ _ k1)
    cases h3.symm.trans k2
    cases h4.symm.trans k3
    cases e1.symm.trans (KX _ _ k4)
    cases e3
    cases e4.symm.trans k5
    exact hP
  obtain ⟨c, tab, sp, hT, nT, C, hsp, hF⟩ := F w mg fa _ Y KX G.T.g hmg own
  exact At0.call ⟨KX, G.T.g, G.T.b, G.T.builtins, G.T.nolimit, hg, hT, nT, C, G.T.bmain, hobj, hints, Nat.le_trans hlen hn2⟩ hr hmg hF fun H hH hS => hsp H a ns hlen hH hS
end DL

/-! Facts of the head, handed on one by one. -/
namespace DL
open PySem PySem.Spec PyProof.Rows L2 LamX ErX
section
variable {Z : Prop} {P : Program} {K : PySem.W.Frag} {h : Heap} {mg : Str → Option Value} {x : Str} {st : Stmt} {f : Addr} {oc kV dc pm cd ct : Value} {od an : Option Addr} {sl : Array (Option Value)}
/-- a def of the top -/
theorem with_fun (X : K.In h) (G : h.Ns mainGlobals mg) (a : PySem.W.nsIn K mainGlobals x = some (some (.ref f)))
    (l : K.lookup f = some ⟨oc, od, .func (PySem.W.fnOf x x (defArgs st) (defBody st) (defScope st) .none kV dc pm an cd ct), sl⟩) (c : PySem.W.codeIn K cd x = true) (k : PySem.W.keepIn K (.ref f) = true) (z : FunAt K mg x st → Z) : Z := z ⟨f, _, fun_mk l c k, PySem.W.mg_of X G a⟩
/-- the same, its code object told, and the table beside it -/
theorem with_funC {c tab : Addr} {dd : Option Addr} {us : Array Value} {slc : Array (Option Value)} {oc0 : Value} (X : K.In h) (G : h.Ns mainGlobals mg) (a : PySem.W.nsIn K mainGlobals x = some (some (.ref f)))
    (l : K.lookup f = some ⟨oc, od, .func (PySem.W.fnOf x x (defArgs st) (defBody st) (defScope st) .none kV dc pm an (.ref c) ct), sl⟩) (e : PySem.W.codeIn K (.ref c) x = true) (k : PySem.W.keepIn K (.ref f) = true)
    (lc : K.lookup c = some ⟨oc0, dd, .fields us, slc⟩) (e1 : us[11]? = some (.ref tab)) (hd : PySem.W.codeHdIn K c tab = true) (hT : h.get? tab = some tabO) (nT : K.lookup tab = none)
    (z : FunAtC K mg x st c → PySem.W.CodeHd h c tab → h.get? tab = some tabO → K.lookup tab = none → Z) : Z :=
  z ⟨f, ⟨oc, od, kV, dc, pm, an, ct, sl, l, e⟩, k, PySem.W.mg_of X G a⟩ (PySem.W.codeHd_of_K X hd) hT nT
/-- a def with a default -/
theorem with_funD {dT : Addr} {o : Obj} {i : Int} {t : Tok} {n : Nat} (X : K.In h) (G : h.Ns mainGlobals mg) (a : PySem.W.nsIn K mainGlobals x = some (some (.ref f)))
    (l : K.lookup f = some ⟨oc, od, .func (PySem.W.fnOf x x (defArgs st) (defBody st) (defScope st) (.ref dT) kV dc pm an cd ct), sl⟩) (c : PySem.W.codeIn K cd x = true) (k : PySem.W.keepIn K (.ref f) = true) (d : K.lookup dT = some o) (d2 : o.data = .seq [.int i t].toArray n)
    (z : (∃ f fd, FunD K x x (defArgs st) (defBody st) (defScope st) [.int i] [] f fd ∧ mg x = some (.ref f)) → Z) : Z :=
  z ⟨f, _, ⟨⟨_, _, _, _, _, _, _, _, _, _, rfl, l, c, .inr ⟨by simp, dT, o, _, n, rfl, d, d2, .cons ⟨t, rfl⟩ .nil⟩, .inl rfl⟩, k⟩, PySem.W.mg_of X G a⟩
theorem with_none (X : K.In h) (G : h.Ns mainGlobals mg) (a : PySem.W.nsIn K mainGlobals x = some none) : mg x = none := PySem.W.mg_none_of X G a
theorem with_ref {v : Value} (X : K.In h) (G : h.Ns mainGlobals mg) (a : PySem.W.nsIn K mainGlobals x = some (some v)) (z : mg x = some v → Z) : Z := z (PySem.W.mg_of X G a)
/-- an own error: its class and its __init__ -/
theorem with_err {C fI cda cc dT : Addr} {nm q : Str} {N : Addr} {bs bm : List Value} {sn : List Str} {sub : List Value} {ab : Bool} {col : Option Bool} {dd od0 an0 cdd cld dcd : Option Addr} {k0 k1 k2 k3 k5 : Option Value} {qual file : Str} {oc0 kV0 doc0 pm0 ct0 ccl cl dcl dit : Value} {osl ccs csl dsl : Array (Option Value)} {vs : Array Value} {tf : Tok} {dn : Nat}
    {p1 p2 p3 q1 q2 q3 q4 q5 q6 q7 q8 q9 q10 : Pos} (X : K.In h) (G : h.Ns mainGlobals mg)
    (aC : PySem.W.nsIn K mainGlobals x = some (some (.ref C))) (xC : K.lookup C = some (excClassObj nm q C N bs bm true sn sub ab col dd k0 k1 k2 k3 k5 "ValueError.__new__")) (bmo : PySem.HandSPX.refsVE bm = true) (sa : PySem.W.findIn K (.ref C) "__setattr__" = some (some (.builtin "object.__setattr__")))
    (exC : PySem.W.subIn K (.ref C) (.type "BaseException") = some true) (tyC : PySem.W.typeIn K (.ref C) = some (.type "type")) (kC : PySem.W.keepIn K (.ref C) = true)
    (ga : PySem.W.findIn K (.ref C) "__getattribute__" = some (some (.builtin "BaseException.__getattribute__"))) (gg : PySem.W.findIn K (.ref C) "__getattr__" = some none) (noV : PySem.W.findIn K (.ref C) "value" = some none) (iC : PySem.W.findIn K (.ref C) "__init__" = some (some (.ref fI)))
    (tI : PySem.W.typeIn K (.ref fI) = some (.type "function")) (hdC : PySem.W.hasDictIn K C = true) (sv : PySem.W.subIn K (.ref C) (.type "ValueError") = some true) (own : PySem.W.mroIn K C (.ref C) = some true) (al : PySem.W.ks_superIn K C C "__init__" = some (some (.builtin "ValueError.__init__")))
    (noAny : PySem.W.nsIn K cStatics "thirdparty.any" = some none) (noS : PySem.W.nsIn K mainGlobals "super" = some none) (topS : (P.main.scope.names.lookup ("super" : Str)).isSome = false)
    (l1 : K.lookup fI = some ⟨oc0, od0, .func (PySem.W.ksFn "__init__" qual (iArgs p1 p2 p3) (iBody q1 q2 q3 q4 q5 q6 q7 q8 q9 q10) iScope (.ref dT) kV0 doc0 pm0 an0 (.ref cda) ct0 cc), osl⟩) (l2 : PySem.W.codeIn K (.ref cda) qual = true) (l3 : K.lookup cda = some ⟨ccl, cdd, .fields vs, ccs⟩) (l4 : vs[2]? = some (.str file tf)) (l5 : ((P.main.file : Str) == file) = true)
    (l6 : K.lookup cc = some ⟨cl, cld, .cell (some (.ref C)), csl⟩) (l7 : (q3.endLine == q5.line) = true) (l8 : K.lookup dT = some ⟨dcl, dcd, .seq #[dit] dn, dsl⟩)
    (z : (∃ fI, ErrC P K mg x C fI) → XfC K C → mg x = some (.ref C) → Z) : Z :=
  z ⟨fI, ⟨PySem.W.mg_of X G aC, ⟨⟨_, _, _, _, _, _, _, _, _, _, _, _, _, _, _, xC, bmo⟩, sa, exC, tyC, kC⟩, ga, gg, noV, iC, tI, hdC, sv, own, al, noAny, PySem.W.mg_none_of X G noS, topS,
    ⟨qual, oc0, od0, dT, kV0, doc0, pm0, an0, cda, ct0, cc, osl, p1, p2, p3, q1, q2, q3, q4, q5, q6, q7, q8, q9, q10, ccl, cdd, vs, ccs, file, tf, cl, cld, csl, dcl, dcd, dit, dn, dsl, l1, l2, l3, l4, l5, l6, l7, l8⟩⟩⟩ ⟨ga, gg, exC, hdC⟩ (PySem.W.mg_of X G aC)
end
end DL

/-! Steps taken by themselves. -/
namespace DL
open PySem PySem.Spec PyProof.Rows L2
section
variable {ρ : Rho} {P : Po} {t : TS}
/-- what a slot is known to hold is forgotten -/
theorem Ok.forget {B : Bs} {G H : Hp} {σ : L2.St} (K : Ok B G H σ ρ) (i : Nat) : Ok B G H σ (ρ.set i .no) := by
  have sub : ∀ (k : Nat) (e : Ent), (ρ.set i .no)[k]? = some e → e = .no ∨ ρ[k]? = some e := fun k e hk => by
    by_cases z : i = k
    · subst z
      have hj := (List.getElem?_eq_some_iff.mp hk).1
      rw [List.length_set] at hj
      rw [List.getElem?_set_self hj] at hk
      exact .inl (Option.some.inj hk).symm
    · rw [List.getElem?_set_ne z] at hk
      exact .inr hk
  refine ⟨K.g0, K.gh, K.nw, K.kp, K.gm, by rw [List.length_set]; exact K.len, fun k e s hk hs => ?_, fun a b da db c ha hb => ?_⟩
  · rcases sub k e hk with q | q
    · subst q
      trivial
    · exact K.en k e s q hs
  · rcases sub a _ ha with q | q
    · cases q
    · rcases sub b _ hb with q' | q'
      · cases q'
      · exact K.ds a b da db c q q'
theorem s_forget (i : Nat) (h : wS t (ρ.set i .no) P) : wS t ρ P := fun B G H σ K D F => h B G H σ (K.forget i) D F
end
section
variable {ρ : Rho} {R : PyData → Rho → Prop} {n m : Nat} {ta tk : TA}
theorem w_callRO {Pre : List PyData → Prop} {Post : List PyData → List PyData → Prop} {BadF : BadT} {E : XK} (h : wA ta ρ fun ds ρ1 => ds.length = n ∧ Pre ds ∧ (∀ C x, ¬ BadF ds C x) ∧ ∀ es, Post ds es → R (.list es) ρ1) : wE (tCall (spRO n Pre Post BadF) [] E ta) ρ R :=
  (wO_callR (RO := fun es ρ1 => R (.list es) ρ1) h).fr fun _ _ r => r
theorem w_defKRO {Pre : List PyData → Prop} {Post : List PyData → List PyData → Prop} {BadF : BadT} {E : XK} (h : wA tk ρ fun ds ρ1 => ds.length = n ∧ m = n ∧ Pre ds.reverse ∧ (∀ C x, ¬ BadF ds.reverse C x) ∧ ∀ es, Post ds.reverse es → R (.list es) ρ1) :
    wE (tCallN 0 m (spRO n Pre Post BadF) (fun _ zs => zs.reverse) E tNil tk) ρ R := (wO_defK (RO := fun es ρ1 => R (.list es) ρ1) h).fr fun _ _ r => r
end
/-! ### what calls hand back, by the values they get -/
section
variable {ρ : Rho} {R : PyData → Rho → Prop} {n : Nat} {ta : TA} {E : XK}
/-- a def's promise as a function of data: where Pre holds, it hands back f -/
def spF (n : Nat) (Pre : List PyData → Prop) (f : List PyData → PyData) : Sp := spD n Pre fun ds d => d = f ds
theorem w_callF {Pre : List PyData → Prop} {f : List PyData → PyData} (h : wA ta ρ fun ds ρ1 => ds.length = n ∧ Pre ds ∧ R (f ds) ρ1) : wE (tCall (spF n Pre f) [] E ta) ρ R :=
  w_call (fun B G H σ K Q q => h B G H σ K Q fun vs G1 H1 ρ1 ds S ⟨a, b, c⟩ d => q vs G1 H1 ρ1 ds S ⟨a, b, fun d e => by rw [e]; exact c⟩ d)
end
/-- as df_of, called by keywords too -/
theorem df_of2 {P : Program} {w : World} {K : PySem.W.Frag} {mg : Str → Option Value} {base : Heap} {x : Str} {st : Stmt} {N ps : List Str} {k : Nat} {sp : Sp} (F : FunAt K mg x st) (S : FnScope N ps (defScope st)) (len : ∀ vs H Q E, sp vs H Q E → vs.length = ps.length)
    (hb : ∀ (oc : Value) (kV doc pm : Value) (an : Option Addr) (cdv ct : Value) (us : List Value), us.length = ps.length → bindArgs (PySem.W.fnOf x x (defArgs st) (defBody st) (defScope st) .none kV doc pm an cdv ct) ⟨us, []⟩ = pure (ps.zip us))
    (hbk : ∀ (kV doc pm : Value) (an : Option Addr) (cdv ct : Value) (ws : List Value), ws.length = ps.reverse.length → bindArgs (PySem.W.fnOf x x (defArgs st) (defBody st) (defScope st) .none kV doc pm an cdv ct) ⟨[], ps.reverse.zip ws⟩ = pure (ps.zip ws.reverse))
    (hbody : ∀ (f : Addr) (cdv : Value) (A : Around) (outer : List Env) (s : Shared) (H : Hp) (E : XK), Room k (A.deeper (envOfC x (defScope st) s.heap.objs.size f cdv)) →
      ∃ t, PSs (cxOf CX0 P w K mg base N x (defScope st) f cdv A outer s H E).nox (defBody st) t ∧ ∀ vs Q, sp vs H Q E → t { nx := fun _ H' => Q .non H', rt := Q } (L2.start N vs) H) : Df P w K mg base CX0 (k + 1) x ps [] sp ∧ DfR P w K mg base CX0 (k + 1) x ps sp := by
  obtain ⟨f, fd, F, hm⟩ := F
  have ok : FnOk P w K mg base CX0 (k + 1) f fd ps sp := F.ok S len fun cdv A outer s H vs Q E hr hs => by
    obtain ⟨t, h1, h2⟩ := hbody f cdv A outer s H E hr
    exact ⟨t, h1, h2 vs Q hs⟩
  refine ⟨⟨f, fd, [], ok, hm, F.kp, F.binds (ps := ps) (hb .none), .nil⟩, f, fd, ok, hm, F.kp, fun s us ws _ h1 h2 => ?_, fun _ r => vals_rev r⟩
  obtain ⟨oc, od, kV, doc, pm, an, cdv, ct, osl, rfl, _⟩ := F.ex
  have : us = [] := List.length_eq_zero_iff.mp h1
  subst this
  exact .of_eq (hbk kV doc pm an cdv ct ws h2)
end DL

/-! Texts in the data layer; rules that go by the kinds of what they get. -/
namespace DL
open PySem PySem.Spec PyProof.Rows L2
open Evl (Ex)
section
variable {X : Cx} {tg e : Expr} {te : TE}
/-- a walk over a list, a tuple or a text -/
def iAny (K : PySem.W.Frag) (te : TE) : TI := fun σ H R => iList K te σ H R ∨ iTup K te σ H R ∨ iStr te σ H R
theorem pi_any (he : PE X e te) : PI X tg e (iAny X.K te) := ⟨fun pins s σ H R I h => h.elim (fun h => (pi_list he).run pins s σ H R I h) fun h => h.elim (fun h => (pi_tup he).run pins s σ H R I h) fun h => (pi_str he).run pins s σ H R I h⟩
def rSlX (K : PySem.W.Frag) : V → Option Int → Option Int → Hp → VK → Prop := fun x lo hi H Q => rSlL K x lo hi H Q ∨ rSlA K x lo hi H Q
theorem sl_X : SlR X (rSlX X.K) := SlR.or sl_list sl_tupA
theorem pe_globC {x : Str} {v : V} {pos : Pos} (h : ∃ u, X.mg x = some u ∧ RelV v u) (hg : Gl X x := by rfl) (hd : (x == ("__debug__" : Str)) = false := by decide) : PE X (.Name x pos) (tC v) := by
  obtain ⟨u, h1, h2⟩ := h
  exact pe_glob hg h1 h2 hd
/-- x in l, l a list of data or a text (x one sign) -/
def rInSg (neg : Bool) : R2 := fun x y H Q => ∃ (c : Nat) (z : Str), x = .str ⟨#[c]⟩ ∧ y = .str z ∧ Q (.bl (if neg then !decide (c ∈ z.cps.toList) else decide (c ∈ z.cps.toList))) H
def rInA (neg : Bool) : R2 := fun x y H Q => rInX neg x y H Q ∨ rInSg neg x y H Q
theorem op_inA (hu : X.A.units + 65 < cLine) : OpR X (compareOp .In) (rInA false) := opOr (op_inX hu) op_in_sign
theorem op_notInA (hu : X.A.units + 65 < cLine) : OpR X (compareOp .NotIn) (rInA true) := opOr (op_notInX hu) op_notIn_sign
def rJoin (K : PySem.W.Frag) : V → List V → Hp → VK → Prop := fun x xs H Q => ∃ a p, ∃ ys : List Str, x = .str a ∧ xs = [.ref p] ∧ (SqL K H p (ys.map V.str) ∨ SqT K H p (ys.map V.str)) ∧ (ys.map (·.length)).sum + ys.length * a.length ≤ 16777216 ∧ Q (.str (Txt.join a ys)) H
def rOrd : List V → Hp → VK → Prop := fun xs H Q => ∃ x, xs = [.str x] ∧ x.length = 1 ∧ Q (.int (x.cps.getD 0 0 : Nat)) H
theorem call_ordX : CallR X (.builtin "ord") rOrd := call_ord
end
section
variable {ρ : Rho} {R : List PyData → Rho → Prop} {te : TE} {K : PySem.W.Frag}
/-- the signs of a text -/
def sgs (x : Str) : List PyData := x.cps.toList.map fun c => .str ⟨#[c]⟩
theorem i_anyL (h : wE te ρ fun d ρ1 => ∃ ds, d = .list ds ∧ R ds ρ1) : wI (iAny K te) ρ R := fun B G H σ K0 RR q => .inl (i_list h B G H σ K0 RR q)
theorem i_anyT (h : wE te ρ fun d ρ1 => ∃ ds, d = .tuple ds ∧ R ds ρ1) : wI (iAny K te) ρ R := fun B G H σ K0 RR q => .inr (.inl (i_tup h B G H σ K0 RR q))
theorem i_anyS (h : wE te ρ fun d ρ1 => ∃ x, d = .str x ∧ R (sgs x) ρ1) : wI (iAny K te) ρ R := fun B G H σ K0 RR q => .inr (.inr (h B G H σ K0 _ fun v G1 H1 ρ1 d S ⟨x, e, r⟩ d1 => by
  subst e
  refine ⟨x, d1.str', q _ _ _ _ (sgs x) S r fun G' H' eg eh i => ?_⟩
  unfold sgs
  refine ⟨fun hi => by rw [List.length_map, Array.length_toList] at hi; exact hi, fun d hd => ?_⟩
  rw [List.getElem?_map, Array.getElem?_toList] at hd
  cases q : x.cps[i]? with
  | none =>
    rw [q] at hd
    cases hd
  | some c =>
    rw [q] at hd
    cases hd
    refine ⟨(Array.getElem?_eq_some_iff.mp q).1, fun y H2 ⟨e, c', h1, h2⟩ => .inl ⟨e, ?_⟩⟩
    rw [q] at h1
    cases h1
    rw [h2]
    exact .str _))
end
section
variable {ρ : Rho} {R : PyData → Rho → Prop} {te to : TE} {K : PySem.W.Frag} {RR : PyData → Prop}
theorem o_inA {d : PyData} {es : List PyData} (sd : SeqAt.shaped d = true) (se : SeqAt.shaped (.list es) = true) (h : RR (.bool (es.any fun z => PyData.eqv z d))) : OpW (rInA false) d (.list es) RR := OpW.or1 (o_in sd se h)
theorem o_notInA {d : PyData} {es : List PyData} (sd : SeqAt.shaped d = true) (se : SeqAt.shaped (.list es) = true) (h : RR (.bool (!es.any fun z => PyData.eqv z d))) : OpW (rInA true) d (.list es) RR := OpW.or1 (o_notIn sd se h)
theorem o_inSg {c : Nat} {z : Str} (h : RR (.bool (decide (c ∈ z.cps.toList)))) : OpW (rInA false) (.str ⟨#[c]⟩) (.str z) RR := OpW.or2 (OpW.flat (fun _ => .bl _) h fun B G H σ ρ K vx vy dx dy Q q => ⟨c, z, dx.str', dy.str', q⟩)
theorem o_notInSg {c : Nat} {z : Str} (h : RR (.bool (!decide (c ∈ z.cps.toList)))) : OpW (rInA true) (.str ⟨#[c]⟩) (.str z) RR := OpW.or2 (OpW.flat (fun _ => .bl _) h fun B G H σ ρ K vx vy dx dy Q q => ⟨c, z, dx.str', dy.str', q⟩)
theorem c_ord {c : Nat} (h : RR (.int (c : Nat))) : CallW rOrd [.str ⟨#[c]⟩] RR := CallW.flat (fun _ => .int _) h fun B G H σ ρ K vs dv Q q => by
  obtain ⟨v, rfl, d1⟩ := dv.one
  exact ⟨⟨#[c]⟩, by rw [d1.str'], rfl, q⟩
/-- sep.join(texts) -/
theorem w_join {a : Str} (h : wE to ρ fun d ρ1 => d = .str a ∧ wE te ρ1 fun l ρ2 => ∃ ys : List Str, l = .list (ys.map .str) ∧ (ys.map (·.length)).sum + ys.length * a.length ≤ 16777216 ∧ R (.str (Txt.join a ys)) ρ2) : wE (tM1 (rJoin K) to te) ρ R := fun B G H σ K0 Q q => h B G H σ K0 _ fun v G1 H1 ρ1 d S1 ⟨e, r1⟩ d1 => by
  subst e
  refine ⟨⟨a, d1.str'⟩, r1 B G1 H1 σ S1.ok _ fun y G2 H2 ρ2 l S2 ⟨ys, e, hz, r⟩ d2 => ?_⟩
  subst e
  obtain ⟨p, us, rfl, g, da⟩ := d2.lst'
  have := da.strs
  subst this
  exact ⟨a, p, ys, d1.str', rfl, .inl (.inl (.inl (S2.ok.gh _ _ g))), hz, q _ G2 H2 ρ2 _ (S1.trans S2) r (.str _)⟩
/-- a slice of a list, of a tuple -/
theorem wO_slXL {RO : List PyData → Rho → Prop} {tl th : TO} (h : wE te ρ fun d ρ1 => wB tl ρ1 fun lo ρ2 => wB th ρ2 fun hi ρ3 => ∃ ds, d = .list ds ∧ RO (cutD ds lo hi) ρ3) : wO (L2.tSl (rSlX K) te tl th) ρ RO := wO_of_new fun B G H σ K0 Q q =>
  h B G H σ K0 _ fun v G1 H1 ρ1 d S1 r1 d1 => r1 B G1 H1 σ S1.ok _ fun lo G2 H2 ρ2 S2 r2 => r2 B G2 H2 σ S2.ok _ fun hi G3 H3 ρ3 S3 ⟨ds, e, r⟩ => by
    subst e
    obtain ⟨a, xs, rfl, ga, da⟩ := (d1.mono (S2.ex.trans S3.ex)).lst'
    exact .inl ⟨a, xs, rfl, sq_l S3.ok.gh ga, q _ G3 H3 ρ3 _ ((S1.trans S2).trans S3) r (da.cut lo hi)⟩
theorem w_slXL {tl th : TO} (h : wE te ρ fun d ρ1 => wB tl ρ1 fun lo ρ2 => wB th ρ2 fun hi ρ3 => ∃ ds, d = .list ds ∧ R (.list (cutD ds lo hi)) ρ3) : wE (L2.tSl (rSlX K) te tl th) ρ R := (wO_slXL (RO := fun ds ρ1 => R (.list ds) ρ1) h).fr fun _ _ r => r
theorem cut_all {ds : List PyData} {lo hi : Option Int} (h : HT.sIx ds.length 0 lo = 0 ∧ HT.sIx ds.length ds.length hi = ds.length) : cutD ds lo hi = ds := by
  unfold cutD
  rw [h.1, h.2, List.drop_zero, Nat.sub_zero, List.take_length]
theorem w_slXT {tl th : TO} (h : wE te ρ fun d ρ1 => wB tl ρ1 fun lo ρ2 => wB th ρ2 fun hi ρ3 => ∃ ds, d = .tuple ds ∧ R (.tuple (cutD ds lo hi)) ρ3) : wE (L2.tSl (rSlX K) te tl th) ρ R := fun B G H σ K0 Q q =>
  h B G H σ K0 _ fun v G1 H1 ρ1 d S1 r1 d1 => r1 B G1 H1 σ S1.ok _ fun lo G2 H2 ρ2 S2 r2 => r2 B G2 H2 σ S2.ok _ fun hi G3 H3 ρ3 S3 ⟨ds, e, r⟩ => by
    subst e
    have d3 := d1.mono (S2.ex.trans S3.ex)
    obtain ⟨a, xs, rfl, ga, da⟩ := d3.tup'
    have S := (S1.trans S2).trans S3
    refine .inr ⟨a, xs, rfl, sq_t S3.ok.gh ga, fun z => ?_, fun _ p hp => ?_⟩
    · rw [da.length] at z
      rw [cut_all z] at r
      exact q _ G3 H3 ρ3 _ S r d3
    · have S4 := Stp.laidF S3.ok (o := .tup (cutV xs lo hi)) hp
      exact q _ _ _ ρ3 _ (S.trans S4) r (.tup upd_same ((da.cut lo hi).mono S4.ex))
/-- {} -/
theorem w_dnew (r : R (.dict []) ρ) : wE tDNewK ρ R := fun B G H σ K0 Q q p hp => by
  have S := Stp.laidF K0 (o := .dK []) hp
  exact q _ _ _ ρ _ S r (.dct upd_same)
/-- list(x) of a list, of a tuple -/
def rListX (K : PySem.W.Frag) : List V → Hp → VK → Prop := fun xs H Q => ∃ p ys, xs = [.ref p] ∧ (SqL K H p ys ∨ SqT K H p ys) ∧ ∀ l, H l = none → Q (.ref l) (upd H l (.lst ys))
theorem call_listX {X : Cx} : CallR X (.type "list") (rListX X.K) := call_list_of
theorem c_listL {ds : List PyData} (r : RR (.list ds)) : CallW (rListX K) [.list ds] RR := fun B G H σ ρ K0 vs dv Q q => by
  obtain ⟨v, rfl, hv⟩ := dv.one
  obtain ⟨a, xs, rfl, ga, da⟩ := hv.lst'
  refine ⟨a, xs, rfl, .inl (sq_l K0.gh ga), fun p hp => ?_⟩
  have S := Stp.laidF K0 (o := .lst xs) hp
  exact q _ _ _ _ S r (.lst upd_same (da.mono S.ex))
theorem c_listT {ds : List PyData} (r : RR (.list ds)) : CallW (rListX K) [.tuple ds] RR := fun B G H σ ρ K0 vs dv Q q => by
  obtain ⟨v, rfl, hv⟩ := dv.one
  obtain ⟨a, xs, rfl, ga, da⟩ := hv.tup'
  refine ⟨a, xs, rfl, .inr (sq_t K0.gh ga), fun p hp => ?_⟩
  have S := Stp.laidF K0 (o := .lst xs) hp
  exact q _ _ _ _ S r (.lst upd_same (da.mono S.ex))
theorem wO_listL {ts : TA} {RO : List PyData → Rho → Prop} (h : wA ts ρ fun ds ρ1 => ∃ xs, ds = [.list xs] ∧ RO xs ρ1) : wO (tCB (rListX K) ts) ρ RO := wO_of_new fun B G H σ K0 Q q => h B G H σ K0 _ fun vs G1 H1 ρ1 ds S ⟨xs, e, r⟩ d1 => by
  subst e
  obtain ⟨v, rfl, hv⟩ := d1.one
  obtain ⟨a, us, rfl, ga, da⟩ := hv.lst'
  exact ⟨a, us, rfl, .inl (sq_l S.ok.gh ga), q _ G1 H1 ρ1 _ S r da⟩
end
/-! ### texts -/
theorem join_nil : ∀ ys : List Str, (Txt.join "" ys).cps.toList = ys.flatMap fun y => y.cps.toList
  | [] => by rw [TL.join_eq]; rfl
  | [y] => by rw [TL.join_eq]; simp [Str.join]
  | y :: z :: ys => by
    have ih := join_nil (z :: ys)
    rw [TL.join_eq] at ih ⊢
    have : Str.join "" (y :: z :: ys) = y ++ "" ++ Str.join "" (z :: ys) := rfl
    rw [this, List.flatMap_cons, ← ih, Str.cps_append, Str.cps_append, Array.toList_append, Array.toList_append]
    simp
    rfl
end DL

/-! Data of moderate size; lists that are compared with an empty one. -/
namespace DL
open PySem PySem.Spec PyProof.Rows L2
mutual
/-- ints below 10 ^ 40, texts of signs; b: empty dicts, too -/
def okD (b : Bool) : PyData → Bool
  | .none => true
  | .bool _ => true
  | .int i => decide (i.natAbs < 10 ^ 40)
  | .str x => PyData.strOk x && x.cps.toList.all fun c => decide (c < 16 ^ 8)
  | .list xs => okDs b xs
  | .tuple xs => okDs b xs
  | .dict kvs => b && kvs.isEmpty
def okDs (b : Bool) : List PyData → Bool
  | [] => true
  | x :: xs => okD b x && okDs b xs
end
theorem okDs_mem {b : Bool} : ∀ {xs : List PyData}, okDs b xs = true ↔ ∀ x ∈ xs, okD b x = true
  | [] => by simp [okDs]
  | x :: xs => by
    have ih := okDs_mem (b := b) (xs := xs)
    simp [okDs, ih]
structure OkF (d : PyData) : Prop where
  show_ : d.showable = true
  short : d.leavesShort 45 = true
structure OkFs (xs : List PyData) : Prop where
  show_ : PyData.showableAll xs = true
  short : PyData.leavesShortAll 45 xs = true
mutual
theorem okD_f {b : Bool} : ∀ {d : PyData}, okD b d = true → OkF d
  | .none, _ => ⟨by simp [PyData.showable], by simp [PyData.leavesShort]⟩
  | .bool _, _ => ⟨by simp [PyData.showable], by simp [PyData.leavesShort]⟩
  | .int i, h => by
    have a := tyF_int 0 (i := i) (by simpa [okD] using h)
    exact ⟨a.show_, a.short⟩
  | .str x, h => by
    simp only [okD, Bool.and_eq_true] at h
    exact ⟨by simp [PyData.showable], by simp only [PyData.leavesShort]; exact h.2⟩
  | .list xs, h => by
    have a := okDs_f (b := b) (xs := xs) (by simpa [okD] using h)
    exact ⟨by simp [PyData.showable, a.show_], by simp [PyData.leavesShort, a.short]⟩
  | .tuple xs, h => by
    have a := okDs_f (b := b) (xs := xs) (by simpa [okD] using h)
    exact ⟨by simp [PyData.showable, a.show_], by simp [PyData.leavesShort, a.short]⟩
  | .dict kvs, h => by
    simp only [okD, Bool.and_eq_true, List.isEmpty_iff] at h
    rw [h.2]
    exact ⟨by simp [PyData.showable, PyData.showableKv], by simp [PyData.leavesShort, PyData.leavesShortKv]⟩
theorem okDs_f {b : Bool} : ∀ {xs : List PyData}, okDs b xs = true → OkFs xs
  | [], _ => ⟨by simp [PyData.showableAll], by simp [PyData.leavesShortAll]⟩
  | x :: xs, h => by
    simp only [okDs, Bool.and_eq_true] at h
    have a := okD_f h.1
    have c := okDs_f h.2
    exact ⟨by simp [PyData.showableAll, a.show_, c.show_], by simp [PyData.leavesShortAll, a.short, c.short]⟩
end
mutual
theorem okD_lay : ∀ {d : PyData}, okD false d = true → d.canLay0 = true
  | .none, _ => by simp [PyData.canLay0]
  | .bool _, _ => by simp [PyData.canLay0]
  | .int i, _ => by simp [PyData.canLay0]
  | .str x, h => by
    simp only [okD, Bool.and_eq_true] at h
    simp [PyData.canLay0, h.1]
  | .list xs, h => by
    have a := okDs_lay (xs := xs) (by simpa [okD] using h)
    simp [PyData.canLay0, a]
  | .tuple xs, h => by
    have a := okDs_lay (xs := xs) (by simpa [okD] using h)
    simp [PyData.canLay0, a]
  | .dict kvs, h => by simp [okD] at h
theorem okDs_lay : ∀ {xs : List PyData}, okDs false xs = true → PyData.canLayAll0 xs = true
  | [], _ => by simp [PyData.canLayAll0]
  | x :: xs, h => by
    simp only [okDs, Bool.and_eq_true] at h
    simp [PyData.canLayAll0, okD_lay h.1, okDs_lay h.2]
end
/-- of moderate size; b: empty dicts may stand in it -/
structure Nz (b : Bool) (d : PyData) : Prop where
  ok : okD b d = true
  dep : d.depth ≤ 60
  wt : d.weight ≤ 100000
theorem Nz.shaped {d : PyData} (h : Nz false d) : SeqAt.shaped d = true := by
  unfold SeqAt.shaped
  rw [Bool.and_eq_true, decide_eq_true_eq]
  exact ⟨okD_lay h.ok, by have := h.dep; omega⟩
theorem depth_mem : ∀ {xs : List PyData} {x : PyData}, x ∈ xs → x.depth ≤ PyData.depthAll xs
  | y :: ys, x, h => by
    simp only [PyData.depthAll]
    rcases List.mem_cons.mp h with q | q
    · subst q
      omega
    · have := depth_mem q
      omega
theorem weight_mem : ∀ {xs : List PyData} {x : PyData}, x ∈ xs → x.weight + 1 ≤ PyData.weightAll xs
  | y :: ys, x, h => by
    simp only [PyData.weightAll]
    rcases List.mem_cons.mp h with q | q
    · subst q
      omega
    · have := weight_mem q
      omega
theorem weight_len : ∀ {xs : List PyData}, xs.length ≤ PyData.weightAll xs
  | [] => by simp
  | y :: ys => by
    have := weight_len (xs := ys)
    simp only [PyData.weightAll, List.length_cons]
    omega
theorem Nz.itemL {b : Bool} {xs : List PyData} (h : Nz b (.list xs)) {x : PyData} (hx : x ∈ xs) : Nz b x := by
  have a := h.ok
  simp only [okD] at a
  have d := h.dep
  have w := h.wt
  simp only [PyData.depth] at d
  simp only [PyData.weight] at w
  exact ⟨okDs_mem.mp a x hx, by have := depth_mem hx; omega, by have := weight_mem hx; omega⟩
theorem Nz.itemT {b : Bool} {xs : List PyData} (h : Nz b (.tuple xs)) {x : PyData} (hx : x ∈ xs) : Nz b x := by
  have a := h.ok
  simp only [okD] at a
  have d := h.dep
  have w := h.wt
  simp only [PyData.depth] at d
  simp only [PyData.weight] at w
  exact ⟨okDs_mem.mp a x hx, by have := depth_mem hx; omega, by have := weight_mem hx; omega⟩
theorem Nz.lenL {b : Bool} {xs : List PyData} (h : Nz b (.list xs)) : xs.length ≤ 100000 := by
  have w := h.wt
  simp only [PyData.weight] at w
  exact Nat.le_trans weight_len w
theorem Nz.lenT {b : Bool} {xs : List PyData} (h : Nz b (.tuple xs)) : xs.length ≤ 100000 := by
  have w := h.wt
  simp only [PyData.weight] at w
  exact Nat.le_trans weight_len w
theorem Nz.lenS {b : Bool} {x : Str} (h : Nz b (.str x)) : x.length ≤ 100000 := by
  have w := h.wt
  simp only [PyData.weight] at w
  exact w
theorem Nz.t {d : PyData} (h : Nz false d) : Nz true d := ⟨by
  have key : (∀ d : PyData, okD false d = true → okD true d = true) := by
    intro d
    exact (PyData.rec (motive_1 := fun d => okD false d = true → okD true d = true) (motive_2 := fun xs => okDs false xs = true → okDs true xs = true) (motive_3 := fun _ => True) (motive_4 := fun _ => True)
      (fun _ => rfl) (fun _ _ => rfl) (fun _ h => by simpa [okD] using h) (fun _ h => by simpa [okD] using h) (fun _ ih h => by simpa [okD] using ih (by simpa [okD] using h)) (fun _ ih h => by simpa [okD] using ih (by simpa [okD] using h))
      (fun _ _ h => by simp [okD] at h) (fun _ => rfl) (fun _ _ a b h => by
        simp only [okDs, Bool.and_eq_true] at h ⊢
        exact ⟨a h.1, b h.2⟩) trivial (fun _ _ _ _ => trivial) (fun _ _ _ _ => trivial) d)
  exact key d h.ok, h.dep, h.wt⟩
theorem line5 {n : Nat} (h : n ≤ 100000) : n ≤ sizeLine := by
  rw [sizeLine_eq]
  omega
/-- a sign of a text of such -/
theorem Nz.sg {b : Bool} {x : Str} (h : Nz b (.str x)) {c : Nat} (hc : c ∈ x.cps.toList) : Nz false (.str ⟨#[c]⟩) := by
  have a := h.ok
  simp only [okD, Bool.and_eq_true, List.all_eq_true, decide_eq_true_eq, PyData.strOk, ← Array.all_toList] at a
  refine ⟨?_, by simp [PyData.depth], by simp [PyData.weight]⟩
  simp only [okD, Bool.and_eq_true, List.all_eq_true, decide_eq_true_eq, PyData.strOk, ← Array.all_toList]
  refine ⟨fun y hy => ?_, fun y hy => ?_⟩
  · have : y = c := by simpa using hy
    subst this
    exact a.1 y hc
  · have : y = c := by simpa using hy
    subst this
    exact a.2 y hc
theorem Nz.sub {b : Bool} {xs ys : List PyData} (s : ys.Sublist xs) (h : Nz b (.list xs)) : Nz b (.list ys) := by
  have key : PyData.depthAll ys ≤ PyData.depthAll xs ∧ PyData.weightAll ys ≤ PyData.weightAll xs := by
    induction s with
    | slnil => exact ⟨Nat.le_refl _, Nat.le_refl _⟩
    | cons a _ ih =>
      simp only [PyData.depthAll, PyData.weightAll]
      have hd : Nz b (.list _) := ⟨by
        have := h.ok
        simp only [okD, okDs, Bool.and_eq_true] at this
        simpa [okD] using this.2, by
        have := h.dep
        simp only [PyData.depth, PyData.depthAll] at this ⊢
        omega, by
        have := h.wt
        simp only [PyData.weight, PyData.weightAll] at this ⊢
        omega⟩
      have := ih hd
      omega
    | cons_cons a _ ih =>
      simp only [PyData.depthAll, PyData.weightAll]
      have hd : Nz b (.list _) := ⟨by
        have := h.ok
        simp only [okD, okDs, Bool.and_eq_true] at this
        simpa [okD] using this.2, by
        have := h.dep
        simp only [PyData.depth, PyData.depthAll] at this ⊢
        omega, by
        have := h.wt
        simp only [PyData.weight, PyData.weightAll] at this ⊢
        omega⟩
      have := ih hd
      omega
  have a := h.ok
  have d := h.dep
  have w := h.wt
  simp only [okD] at a
  simp only [PyData.depth] at d
  simp only [PyData.weight] at w
  refine ⟨?_, ?_, ?_⟩
  · simp only [okD]
    exact okDs_mem.mpr fun x hx => okDs_mem.mp a x (s.subset hx)
  · simp only [PyData.depth]
    omega
  · simp only [PyData.weight]
    omega
theorem eqv_nil (xs : List PyData) : PyData.eqv (.list xs) (.list []) = decide (xs = []) := by
  cases xs with
  | nil => simp [PyData.eqv, PyData.eqvAll]
  | cons x xs => simp [PyData.eqv, PyData.eqvAll]
/-- a list told by a comprehension, == [] -/
def rEqNil : R2 := fun x y H Q => ∃ a b xs, x = .ref a ∧ y = .ref b ∧ H a = some (.lst xs) ∧ H b = some (.lst []) ∧ Q (.bl (decide (xs = []))) H
theorem op_eqNil {X : Cx} (hu : X.A.units + 64 < cLine) : OpR X (compareOp .Eq) rEqNil := by
  intro pins s σ H x y v u Q I rx ry h
  obtain ⟨a, b, xs, rfl, rfl, ha, hb, q⟩ := h
  cases rx
  cases ry
  obtain ⟨its, rv, hl, _⟩ := I.list (.inl (.inl ha))
  obtain ⟨its2, rv2, hl2, _⟩ := I.list (.inl (.inl hb))
  have e2 : its2 = [] := by
    cases rv2
    rfl
  subst e2
  have hu' : X.A.units < cLine := by omega
  cases rv with
  | nil => exact SeqAt.eq_listAt (e := fun _ => true) hl.isList hl2.isList rfl hu' (fun j h1 _ => absurd h1 (by simp)) ⟨.bl _, H, I, rfl, q⟩
  | cons r1 r2 => exact SeqAt.eq_list_lengthsAt hl.isList hl2.isList (by simp) hu' ⟨.bl _, H, I, rfl, q⟩
theorem o_eqNil {xs : List PyData} {RR : PyData → Prop} (h : RR (.bool (decide (xs = [])))) : OpW rEqNil (.list xs) (.list []) RR := OpW.flat (fun _ => .bl _) h fun B G H σ ρ K vx vy dx dy Q q => by
  obtain ⟨a, us, rfl, ga, da⟩ := dx.lst'
  obtain ⟨b, ws, rfl, gb, db⟩ := dy.lst'
  have e : ws = [] := by
    cases db
    rfl
  subst e
  refine ⟨a, b, us, rfl, rfl, K.gh _ _ ga, K.gh _ _ gb, ?_⟩
  have : decide (us = []) = decide (xs = []) := by
    cases da <;> simp
  rw [this]
  exact q
theorem o_neNil {xs : List PyData} {RR : PyData → Prop} (h : Nz false (.list xs)) (r : RR (.bool (!decide (xs = [])))) : OpW (rEqX true) (.list xs) (.list []) RR := o_ne h.shaped rfl (by rw [eqv_nil]; exact r)
/-- a test of a sign -/
def anyS (q : Nat → Bool) : PyData → Bool
  | .str y => y.cps.toList.any q
  | _ => false
theorem anyS_sg (q : Nat → Bool) (c : Nat) : anyS q (.str ⟨#[c]⟩) = q c := by simp [anyS]
theorem fil_nil {q : Nat → Bool} {z : Str} : (sgs z).filter (anyS q) = [] ↔ ∀ c ∈ z.cps.toList, q c = false := by
  rw [List.filter_eq_nil_iff]
  unfold sgs
  constructor
  · intro h c hc
    have := h (.str ⟨#[c]⟩) (List.mem_map.mpr ⟨c, hc, rfl⟩)
    rw [anyS_sg] at this
    simpa using this
  · intro h a ha
    obtain ⟨c, hc, rfl⟩ := List.mem_map.mp ha
    rw [anyS_sg, h c hc]
    exact Bool.false_ne_true
theorem sgs_dep : ∀ l : List Nat, PyData.depthAll (l.map fun c => .str ⟨#[c]⟩) = 0
  | [] => by simp [PyData.depthAll]
  | c :: l => by simp [PyData.depthAll, PyData.depth, sgs_dep l]
theorem sgs_wt : ∀ l : List Nat, PyData.weightAll (l.map fun c => .str ⟨#[c]⟩) = 2 * l.length
  | [] => by simp [PyData.weightAll]
  | c :: l => by
    simp [PyData.weightAll, PyData.weight, sgs_wt l]
    omega
theorem nz_sgs {b : Bool} {z : Str} (h : Nz b (.str z)) (hl : z.length ≤ 40000) : Nz false (.list (sgs z)) := by
  refine ⟨?_, ?_, ?_⟩
  · simp only [okD]
    refine okDs_mem.mpr fun x hx => ?_
    obtain ⟨c, hc, rfl⟩ := List.mem_map.mp hx
    exact (h.sg hc).ok
  · unfold sgs
    simp only [PyData.depth, sgs_dep]
    omega
  · unfold sgs
    simp only [PyData.weight, sgs_wt, Array.length_toList]
    have : z.cps.size ≤ 40000 := hl
    omega
theorem depth_le {D : Nat} : ∀ {xs : List PyData}, (∀ x ∈ xs, x.depth ≤ D) → PyData.depthAll xs ≤ D
  | [], _ => by simp [PyData.depthAll]
  | x :: xs, h => by
    have a := h x List.mem_cons_self
    have b := depth_le (D := D) fun y hy => h y (List.mem_cons_of_mem x hy)
    simp only [PyData.depthAll]
    omega
theorem weight_le {W : Nat} : ∀ {xs : List PyData}, (∀ x ∈ xs, x.weight ≤ W) → PyData.weightAll xs ≤ xs.length * (W + 1)
  | [], _ => by simp [PyData.weightAll]
  | x :: xs, h => by
    have a := h x List.mem_cons_self
    have b := weight_le (W := W) fun y hy => h y (List.mem_cons_of_mem x hy)
    simp only [PyData.weightAll, List.length_cons, Nat.succ_mul]
    omega
/-- what stands in a list is small -/
structure Sm (b : Bool) (D W : Nat) (x : PyData) : Prop where
  ok : okD b x = true
  dep : x.depth ≤ D
  wt : x.weight ≤ W
theorem Nz.of {b : Bool} {D W : Nat} {x : PyData} (h : Sm b D W x) (hD : D ≤ 60) (hW : W ≤ 100000) : Nz b x := ⟨h.ok, Nat.le_trans h.dep hD, Nat.le_trans h.wt hW⟩
theorem Sm.list {b : Bool} {D W n : Nat} {xs : List PyData} (h : ∀ x ∈ xs, Sm b D W x) (hn : xs.length ≤ n) : Sm b (D + 1) (n * (W + 1)) (.list xs) := by
  refine ⟨?_, ?_, ?_⟩
  · simp only [okD]
    exact okDs_mem.mpr fun x hx => (h x hx).ok
  · have := depth_le (D := D) fun x hx => (h x hx).dep
    simp only [PyData.depth]
    omega
  · simp only [PyData.weight]
    exact Nat.le_trans (weight_le (W := W) fun x hx => (h x hx).wt) (Nat.mul_le_mul_right _ hn)
theorem Sm.tup {b : Bool} {D W n : Nat} {xs : List PyData} (h : ∀ x ∈ xs, Sm b D W x) (hn : xs.length ≤ n) : Sm b (D + 1) (n * (W + 1)) (.tuple xs) := by
  refine ⟨?_, ?_, ?_⟩
  · simp only [okD]
    exact okDs_mem.mpr fun x hx => (h x hx).ok
  · have := depth_le (D := D) fun x hx => (h x hx).dep
    simp only [PyData.depth]
    omega
  · simp only [PyData.weight]
    exact Nat.le_trans (weight_le (W := W) fun x hx => (h x hx).wt) (Nat.mul_le_mul_right _ hn)
theorem Sm.str {b : Bool} {W : Nat} {z : Str} (h : ∀ c ∈ z.cps.toList, c < 0x110000) (hw : z.length ≤ W) : Sm b 0 W (.str z) := by
  refine ⟨?_, by simp [PyData.depth], ?_⟩
  · simp only [okD, Bool.and_eq_true, List.all_eq_true, decide_eq_true_eq, PyData.strOk, ← Array.all_toList]
    exact ⟨h, fun c hc => Nat.lt_trans (h c hc) (by decide)⟩
  · simp only [PyData.weight]
    exact hw
theorem Sm.mono {b : Bool} {D W D' W' : Nat} {x : PyData} (h : Sm b D W x) (hD : D ≤ D') (hW : W ≤ W') : Sm b D' W' x := ⟨h.ok, Nat.le_trans h.dep hD, Nat.le_trans h.wt hW⟩
/-- whether p, by choice -/
noncomputable def clb (p : Prop) : Bool := @decide p (Classical.propDecidable p)
theorem clb_iff {p : Prop} : clb p = true ↔ p := by
  unfold clb
  exact @decide_eq_true_iff p (Classical.propDecidable p)
theorem clb_eq {p : Prop} {b : Bool} (h : b = true ↔ p) : clb p = b := Bool.eq_iff_iff.mpr (clb_iff.trans h.symm)
theorem clb_t {p : Prop} (h : p) : clb p = true := clb_iff.mpr h
theorem clb_f {p : Prop} (h : ¬ p) : clb p = false := by
  cases q : clb p with
  | false => rfl
  | true => exact absurd (clb_iff.mp q) h
/-! ### comprehensions over data -/
section
variable {ρ : Rho} {R : PyData → Rho → Prop} {wi : TI} {te : TE} {tt : TT} {j : Nat}
/-- [f(x) for x in ds if p(x)] -/
theorem w_mfD (ds : List PyData) (p : PyData → Bool) (f : PyData → PyData) (hno : ρ[j]? = some .no) (hz : ds.length ≤ sizeLine) (hi : wI wi ρ fun ds' ρ1 => ds' = ds ∧ ρ1 = ρ)
    (he : ∀ a ∈ ds, wT tt (ρ.set j (.dat a)) fun b ρ' => b = p a ∧ ρ' = ρ.set j (.dat a)) (hc : ∀ a ∈ ds, p a = true → wE te (ρ.set j (.dat a)) fun e' ρ' => e' = f a ∧ ρ' = ρ.set j (.dat a)) (rc : R (.list ((ds.filter p).map f)) ρ) :
    wE (tLc wi (gName j) tt te [j]) ρ R := by
  refine w_filL ds id p hno hz (by rw [List.map_id]; exact hi) he id f hc ?_
  rw [List.map_id]
  exact rc
theorem w_filD (ds : List PyData) (p : PyData → Bool) (hno : ρ[j]? = some .no) (hz : ds.length ≤ sizeLine) (hi : wI wi ρ fun ds' ρ1 => ds' = ds ∧ ρ1 = ρ)
    (he : ∀ a ∈ ds, wT tt (ρ.set j (.dat a)) fun b ρ' => b = p a ∧ ρ' = ρ.set j (.dat a)) (rc : R (.list (ds.filter p)) ρ) : wE (tLc wi (gName j) tt (tVar j) [j]) ρ R := by
  have hj : j < ρ.length := (List.getElem?_eq_some_iff.mp hno).1
  refine w_mfD ds p id hno hz hi he (fun a _ _ => w_var (by rw [List.getElem?_set_self hj]; rfl) ⟨rfl, rfl⟩) ?_
  rw [List.map_id]
  exact rc
/-- [f(x) for x in ds] -/
theorem w_mapD (ds : List PyData) (f : PyData → PyData) (hno : ρ[j]? = some .no) (hz : ds.length ≤ sizeLine) (hi : wI wi ρ fun ds' ρ1 => ds' = ds ∧ ρ1 = ρ)
    (he : ∀ a ∈ ds, wE te (ρ.set j (.dat a)) fun e' ρ' => e' = f a ∧ ρ' = ρ.set j (.dat a)) (r : R (.list (ds.map f)) ρ) : wE (tLc wi (gName j) tYes te [j]) ρ R := by
  refine w_mapL ds id id f hno hz (by rw [List.map_id]; exact hi) he ?_
  rw [List.map_id]
  exact r
end
end DL

/-! The generator: its bounds, rows of draws; own lists laid down for good. -/
namespace DL
open PySem PySem.Spec PyProof.Rows L2
open Evl (Ex)
abbrev Gn := Int × Int × Int
/-- a generator within its bounds, with room for c further steps -/
structure GB (c : Int) (g : Gn) : Prop where
  a0 : 0 ≤ g.1
  b0 : 0 ≤ g.2.1
  b1 : g.2.1 < 2147483647
  c0 : 0 ≤ g.2.2
  c1 : g.2.2 + c ≤ 1000000
/-- c steps further at most -/
structure GS (c : Int) (g g' : Gn) : Prop where
  a0 : 0 ≤ g'.1
  b0 : 0 ≤ g'.2.1
  b1 : g'.2.1 < 2147483647
  c0 : 0 ≤ g'.2.2
  c1 : g'.2.2 ≤ g.2.2 + c
theorem GB.le {c c' : Int} {g : Gn} (h : GB c g) (l : c' ≤ c) : GB c' g := ⟨h.a0, h.b0, h.b1, h.c0, by have := h.c1; omega⟩
theorem GS.gb {c c' : Int} {g g' : Gn} (h : GS c g g') (b : GB (c + c') g) : GB c' g' := ⟨h.a0, h.b0, h.b1, h.c0, by have := h.c1; have := b.c1; omega⟩
theorem GS.trans {c c' : Int} {g g' g'' : Gn} (h : GS c g g') (h' : GS c' g' g'') : GS (c + c') g g'' := ⟨h'.a0, h'.b0, h'.b1, h'.c0, by have := h.c1; have := h'.c1; omega⟩
theorem GB.refl {c : Int} {g : Gn} (h : GB c g) : GS 0 g g := ⟨h.a0, h.b0, h.b1, h.c0, by omega⟩
theorem GS.le {c c' : Int} {g g' : Gn} (h : GS c g g') (l : c ≤ c') : GS c' g g' := ⟨h.a0, h.b0, h.b1, h.c0, by have := h.c1; omega⟩
theorem bits_le {L : Int} (h0 : 0 < L) (h1 : L ≤ 10 ^ 35) : (Builtin.Int.intBits L : Int) ≤ 120 := by
  unfold Builtin.Int.intBits
  have lg : L.natAbs.log2 < 119 := log_lt (Nat.lt_of_le_of_lt (show L.natAbs ≤ 10 ^ 35 by omega) (by decide)) (by decide)
  split <;> omega
theorem erase_map {α β : Type} (f : α → β) : ∀ (l : List α) (j : Nat), (l.map f).eraseIdx j = (l.eraseIdx j).map f
  | [], _ => by simp
  | x :: l, 0 => rfl
  | x :: l, j + 1 => by
    rw [List.map_cons, List.eraseIdx_cons_succ, List.eraseIdx_cons_succ, List.map_cons, erase_map f l j]
theorem erase_perm {α : Type} : ∀ {l : List α} {j : Nat} {x : α}, l[j]? = some x → l.Perm (x :: l.eraseIdx j)
  | [], j, x, h => by simp at h
  | y :: l, 0, x, h => by
    have : y = x := by simpa using h
    subst this
    exact .refl _
  | y :: l, j + 1, x, h => by
    have ih := erase_perm (l := l) (j := j) (x := x) (by simpa using h)
    rw [List.eraseIdx_cons_succ]
    exact (ih.cons y).trans (.swap x y _)
theorem cut_fr {ds : List PyData} {j : Nat} : cutD ds (some (j : Int)) none = ds.drop j := by
  unfold cutD
  rw [HT.sIx_none, HT.sIx_nat]
  by_cases h : j ≤ ds.length
  · rw [Nat.min_eq_left h]
    exact List.take_of_length_le (by rw [List.length_drop]; omega)
  · rw [Nat.min_eq_right (by omega), List.drop_of_length_le (by omega), List.drop_of_length_le (by omega)]
    simp
theorem cut_t {ds : List PyData} {j : Nat} : cutD ds none (some (j : Int)) = ds.take j := by
  unfold cutD
  rw [HT.sIx_none, HT.sIx_nat, List.drop_zero, Nat.sub_zero]
  by_cases h : j ≤ ds.length
  · rw [Nat.min_eq_left h]
  · rw [Nat.min_eq_right (by omega), List.take_of_length_le (by omega), List.take_of_length_le (by omega)]
theorem cut_last (ds : List PyData) : cutD ds none (some (-1)) = ds.take (ds.length - 1) := by
  unfold cutD HT.sIx
  simp
  congr 1
  omega
theorem wXO_go {W : WX} {Bad : Addr → PyData → Prop} {t : TS} {ρ : Rho} {Rt : List PyData → Prop} {B : Bs} {G H : Hp} {σ : L2.St} {D : L2.Ends} (K0 : DL.Ok B G H σ ρ) (w : wXO W Bad t ρ Rt) (rt : RtO B G D Rt) (er : ErrFor B G W Bad) : t D σ H := w B G H σ K0 D rt er
theorem rng0_get' {n i : Nat} {d : PyData} (h : (rngD 0 n)[i]? = some d) : i < n ∧ d = .int i := by
  obtain ⟨a, b⟩ := rngD_get h
  refine ⟨a, ?_⟩
  rw [b, Int.zero_add]
/-- [f(generator) for turn in range(n)]: n draws -/
theorem draws {te : TE} {R : List PyData → Rho → Prop} {rest ρ0 : Rho} {j : Nat} {g : Gn} {n : Nat} {c : Int} {S : PyData → Prop}
    (h0 : ρ0 = .gen g :: rest) (hno : rest[j]? = some .no) (hn : n ≤ 1000) (hc : 0 ≤ c) (hg : GB (c * n) g)
    (turn : ∀ (i : Nat) (g' : Gn), i < n → GB c g' → wE te (.gen g' :: rest.set j (.dat (.int i))) fun e ρ' => ∃ g'', ρ' = .gen g'' :: rest.set j (.dat (.int i)) ∧ S e ∧ GS c g' g'')
    (fin : ∀ acc g', acc.length = n → (∀ e ∈ acc, S e) → GS (c * n) g g' → R acc (.gen g' :: rest)) :
    ∃ I : Nat → List PyData → Rho → Prop, I 0 [] ρ0 ∧ (∀ acc ρ', I (rngD 0 n).length acc ρ' → R acc ρ') ∧
      ∀ i d acc ρ', (rngD 0 n)[i]? = some d → I i acc ρ' → wGc (gName (j + 1)) [j + 1] d ρ' fun ρ2 => wT tYes ρ2 fun b ρ3 => if b = true then wE te ρ3 (fun e ρ4 => acc.length < sizeLine ∧ I (i + 1) (acc ++ [e]) (wipeR ρ4 [j + 1])) else I (i + 1) acc (wipeR ρ3 [j + 1]) := by
  have hcn : ∀ i : Nat, i < n → c * ((i + 1 : Nat) : Int) ≤ c * n := fun i hi => Int.mul_le_mul_of_nonneg_left (by omega) hc
  have hsu : ∀ i : Nat, c * ((i + 1 : Nat) : Int) = c * i + c := fun i => by
    rw [Int.natCast_add, Int.mul_add]
    simp
  subst h0
  refine ⟨fun i acc ρ => ∃ g', ρ = .gen g' :: rest ∧ acc.length = i ∧ (∀ e ∈ acc, S e) ∧ GS (c * i) g g', ⟨g, rfl, rfl, by simp, by simpa using hg.refl⟩, ?_, ?_⟩
  · rintro acc ρ ⟨g', rfl, hl, hs, hg'⟩
    rw [rngD_len] at hl hg'
    exact fin acc g' hl hs hg'
  · rintro i d acc ρ hd ⟨g', rfl, hl, hs, hg'⟩
    obtain ⟨hi, rfl⟩ := rng0_get' hd
    refine gc_name (w_yes ?_)
    rw [if_pos rfl]
    have h1 := hcn i hi
    have h2 := hsu i
    refine (turn i g' hi (hg'.gb (hg.le (by omega)))).imp fun e ρ' ⟨g'', e1, he, hg2⟩ => ⟨by rw [sizeLine_eq]; omega, g'', ?_, by simp [hl], ?_, ?_⟩
    · rw [e1]
      show Ent.gen g'' :: (rest.set j (.dat (.int i))).set j .no = _
      rw [List.set_set]
      congr 1
      refine List.ext_getElem? fun k => ?_
      by_cases z : j = k
      · subst z
        rw [List.getElem?_set_self (List.getElem?_eq_some_iff.mp hno).1, hno]
      · rw [List.getElem?_set_ne z]
    · intro x hx
      rcases List.mem_append.mp hx with q | q
      · exact hs x q
      · rw [List.mem_singleton.mp q]
        exact he
    · rw [h2]
      exact hg'.trans hg2
/-- an own list laid down for good -/
theorem s_lay {i : Nat} {ds : List PyData} {t : TS} {ρ : Rho} {P : Po} (h : ρ[i]? = some (.own ds)) (r : wS t (ρ.set i (.dat (.list ds))) P) : wS t ρ P := fun B G H σ K D F => by
  obtain ⟨a, xs, h1, h2, h3, h4, h5, K2⟩ := K.thaw h
  exact r B _ H σ K2 D (F.mono h5)
end DL

/-! sorted of a text. -/
namespace DL
open PySem PySem.Spec PyProof.Rows L2
open Evl (Ex)
/-- the signs, each a text -/
def sgT (x : Str) : List Str := x.cps.toList.map fun c => ⟨#[c]⟩
def rSortTx : List V → Hp → VK → Prop := fun xs H Q => ∃ x : Str, xs = [.str x] ∧ x.length < 64 ∧ ∀ ys p, ys.Perm (sgT x) → sortedS ys = true → H p = none → Q (.ref p) (upd H p (.lst (ys.map V.str)))
theorem call_sortTx {X : Cx} (hcalm : X.calm = true) : CallR X (.builtin "sorted") rSortTx := by
  intro pins s σ H xs us Q I r q
  obtain ⟨x, ex, h64, q⟩ := q
  subst ex
  obtain ⟨u, eu, rx⟩ := vals1 r
  subst eu
  obtain ⟨tk, rfl⟩ := rx
  have hxs : x.cps.size < 64 := h64
  refine Calls.call_function_entry PyProof.Rows.kind_sorted PyProof.Rows.plain_sorted PyProof.Rows.entry_sorted (PyProof.Rows.args_sorted1 _) ?_
  unfold Builtin.«sorted»
  refine wpAny_bind (m := checkCount "sorted" 1 1 _) (wpAny_pure ?_)
  refine wpAny_bind (wpAny_collect_str (A := X.A.in1) (I.ok.hd hcalm) x tk (fun s' acc hk hg hdr hos hacc => ?_) (by rw [sizeLine_eq]; omega))
  have hal : acc.toList.length = (sgT x).length := by
    rw [Array.length_toList, hacc.1, sgT, List.length_map, Array.length_toList]
  have hal2 : acc.toList.length = x.cps.size := by rw [Array.length_toList, hacc.1]
  have hS : StrsAre acc.toList (sgT x) := L2.strs_at hal fun j v e => by
    obtain ⟨c, u, e1, e2⟩ := hacc.2 j v (by rw [← Array.getElem?_toList]; exact e)
    refine ⟨_, u, ?_, e2⟩
    rw [sgT, List.getElem?_map, Array.getElem?_toList, e1]
    rfl
  obtain ⟨h', g', d', t', o'⟩ := s'
  have hg : g' = s.gens := hg
  have hdr : d' = s.drawn := hdr
  have hos : o' = s.os := hos
  subst hg
  subst hdr
  subst hos
  have I1 : Inv X pins σ H { s with heap := h', toks := t' } := I.kept hk
  refine wpAny_bind (wpAny_newList ?_ (by rw [hal2, sizeLine_eq]; omega))
  have hoL : (h'.push (seqObj "list" acc.toList.toArray 0)).get? h'.objs.size = some (seqObj "list" acc.toList.toArray 0) := Heap.get?_push_size _ rfl
  show wpAny _ _ _ _ _ { s with heap := h'.push (seqObj "list" acc.toList.toArray 0), toks := t' }
  refine wpAny_bind (wpAny_holding (wpAny_call_entry PyProof.Rows.slot_list_sort ⟨_, hoL, rfl⟩ PyProof.Rows.entry_list_sort
    (list_sort_treeK strKind_oneLt (s := { s with heap := h'.push (seqObj "list" acc.toList.toArray 0), toks := t' }) hoL hS.keysOf (fun v₁ v₂ rest e => keyKind_strs (by rw [← e]; exact hS)) (by rw [hal2]; exact hxs) fun st' hp hs => ⟨_, rfl, ?_⟩)
    (PyProof.Rows.args_list_sort _)))
  obtain ⟨ys, g1, g2, g3⟩ := sorted_out_str hS hp hs
  obtain ⟨e', he'⟩ := PyProof.Rows.sortedHeap_at (vs := acc.toList) (out := (arrOf st').map (·.2)) hoL
  have hlen : (ys.map V.str).length ≤ sizeLine := by
    rw [List.length_map, g2.length_eq, ← hal, hal2]
    exact Nat.le_trans (Nat.le_of_lt hxs) (by decide)
  refine wpAny_pure ⟨_, rfl, .ref h'.objs.size, upd H h'.objs.size (.lst (ys.map V.str)), I1.laid (t' := t') (fun b u e => ?_) (Nat.le_refl _)
    (show ObjOk X.prog X.w _ _ _ (.lst (ys.map V.str)) from ⟨hlen, ((arrOf st').map (·.2)).toList, e', vals_of_strs g1, by rw [Array.toArray_toList]; exact he'⟩), rfl, q ys _ g2 g3 (I1.hok.fresh (Nat.le_refl _))⟩
  have hb : b < h'.objs.size := Heap.lt_size e
  rw [PyProof.Rows.sortedHeap_old (Nat.ne_of_lt hb) (by rw [size_push']; exact Nat.lt_succ_of_lt hb)]
  exact Heap.get?_push_of_some _ e
section
variable {ρ : Rho} {R : PyData → Rho → Prop} {RR : PyData → Prop} {te to : TE} {K : PySem.W.Frag}
theorem ddAll_strs (G : Hp) : ∀ ys : List Str, DdAll G (ys.map V.str) (ys.map PyData.str)
  | [] => .nil
  | y :: ys => .cons (.str y) (ddAll_strs G ys)
theorem c_sortTx {x : Str} (h : x.length < 64) (r : ∀ ys : List Str, ys.Perm (sgT x) → sortedS ys = true → RR (.list (ys.map .str))) : CallW rSortTx [.str x] RR := fun B G H σ ρ K0 vs dv Q q => by
  obtain ⟨v, rfl, hv⟩ := dv.one
  refine ⟨x, by rw [hv.str'], h, fun ys p pm st hp => ?_⟩
  have S := Stp.laidF K0 (o := .lst (ys.map V.str)) hp
  exact q _ _ _ _ S (r ys pm st) (.lst upd_same (ddAll_strs _ ys))
end
end DL

/-! repr of data with empty dicts. -/
namespace DL
open PySem PySem.Spec PyProof.Rows L2
open Evl (Ex)
/-- the dict of the modules lies in the base -/
def Sy (base : Heap) : Prop := ∃ o, base.get? sysModules = some o
section
variable {X : Cx} {pins : List (Addr × Obj)} {σ : L2.St} {H G : Hp} {s : Shared}
theorem Inv.sys (I : Inv X pins σ H s) (hs : Sy X.base) {a : Addr} {o : HO} (h : H a = some o) : sysModules ≠ a := fun z => by
  obtain ⟨ob, e⟩ := hs
  have := (I.bs _ _ e).2
  rw [z, h] at this
  cases this
mutual
theorem Dd.readsE (I : Inv X pins σ H s) (hs : Sy X.base) (e : Ex G H) : ∀ {d : PyData} {v : V} {u : Value}, Dd G v d → RelV v u → ∃ as, Reads s.heap u d as ∧ sysModules ∉ as
  | .none, _, _, h, r => by
    cases h
    cases r
    exact ⟨_, Reads.none, by simp⟩
  | .bool b, _, _, h, r => by
    cases h
    cases r
    exact ⟨_, Reads.bool b, by simp⟩
  | .int i, _, _, h, r => by
    cases h
    obtain ⟨t, rfl⟩ := r
    exact ⟨_, Reads.int i t, by simp⟩
  | .str x, _, _, h, r => by
    cases h
    obtain ⟨t, rfl⟩ := r
    exact ⟨_, Reads.str x t, by simp⟩
  | .list ds, _, _, h, r => by
    obtain ⟨a, xs, rfl, hg, ha⟩ := h.lst'
    cases r
    obtain ⟨_, its, k, rv, ho⟩ := (show ObjOk X.prog X.w H s.heap a (.lst xs) from I.hok a _ (e _ _ hg))
    obtain ⟨as, ra, hn⟩ := Dd.readsAllE I hs e ha rv
    refine ⟨_, Reads.list ho rfl rfl (by simpa using ra), fun hm => ?_⟩
    rcases List.mem_cons.mp hm with q | q
    · exact Inv.sys I hs (e _ _ hg) q
    · exact hn q
  | .tuple ds, _, _, h, r => by
    obtain ⟨a, xs, rfl, hg, ha⟩ := h.tup'
    cases r
    obtain ⟨_, its, rv, o, ho, hc, k, hd⟩ := (show ObjOk X.prog X.w H s.heap a (.tup xs) from I.hok a _ (e _ _ hg))
    obtain ⟨as, ra, hn⟩ := Dd.readsAllE I hs e ha rv
    exact ⟨_, Reads.tuple ho hc hd (by simpa using ra), hn⟩
  | .dict kvs, _, _, h, r => by
    cases h with
    | dct hg =>
      cases r
      obtain ⟨_, _, vs, rel, dd⟩ := dk_rd I.hok (.inl (e _ _ hg))
      have hv : vs = [] := by
        have := rel.length
        exact List.length_eq_zero_iff.mp (by simpa using this.symm)
      subst hv
      obtain ⟨o, es, ep, ho, ex, hd, _, hp, _⟩ := dd
      have he : es.toList = [] := by
        generalize es.toList = l at hp
        cases hp
        rfl
      refine ⟨_, Reads.dict (kvs := []) ho ex.1 hd (by rw [he]; exact .nil) (by rw [he]; exact .nil), fun hm => ?_⟩
      exact Inv.sys I hs (e _ _ hg) (by simpa using hm)
theorem Dd.readsAllE (I : Inv X pins σ H s) (hs : Sy X.base) (e : Ex G H) : ∀ {ds : List PyData} {vs : List V} {us : List Value}, DdAll G vs ds → Vals vs us → ∃ as, ReadsAll s.heap us ds as ∧ sysModules ∉ as
  | [], _, _, h, r => by
    cases h
    cases r
    exact ⟨_, ReadsAll.nil, by simp⟩
  | d :: ds, _, _, h, r => by
    cases h with
    | cons h1 h2 =>
      cases r with
      | cons r1 r2 =>
        obtain ⟨as, q1, n1⟩ := Dd.readsE I hs e h1 r1
        obtain ⟨bs, q2, n2⟩ := Dd.readsAllE I hs e h2 r2
        exact ⟨_, ReadsAll.cons q1 q2, fun hm => (List.mem_append.mp hm).elim n1 n2⟩
end
end
/-- repr(x), empty dicts in it -/
def rReprE : List V → Hp → VK → Prop := fun xs H Q => ∃ G v d, xs = [v] ∧ Ex G H ∧ Dd G v d ∧ d.showable = true ∧ d.depth ≤ 60 ∧ d.shown.length ≤ sizeLine ∧ Q (.str d.shown) H
theorem call_reprE {X : Cx} (sy : Sy X.base) (hg : X.A.guards = some []) (hu : X.A.units + 64 < cLine) : CallR X (.builtin "repr") rReprE := by
  intro pins s σ H xs us Q I r h
  obtain ⟨G, v, d, rfl, ex, hd, hs, hdp, hz, q⟩ := h
  obtain ⟨u, rfl, ru⟩ := vals1 r
  cases hd with
  | non =>
    cases ru
    exact P.repr_of_none ⟨.str _, H, I.tok _, ⟨_, rfl⟩, by simpa [PyData.shown] using q⟩
  | bl b =>
    cases ru
    exact P.repr_of_bool ⟨.str _, H, I.tok _, ⟨_, rfl⟩, by simpa [PyData.shown] using q⟩
  | int i =>
    obtain ⟨t, rfl⟩ := ru
    exact P.repr_of_int (by simpa [PyData.showable] using hs) ⟨.str _, H, I.tok _, ⟨_, rfl⟩, by simpa [PyData.shown] using q⟩
  | str x =>
    obtain ⟨t, rfl⟩ := ru
    exact P.repr_of_str ⟨.str _, H, I.tok _, ⟨_, rfl⟩, by simpa [PyData.shown] using q⟩ (by simpa [PyData.shown] using hz)
  | lst h1 h2 =>
    obtain ⟨as, rd, ns⟩ := Dd.readsE I sy ex (.lst h1 h2) ru
    cases ru
    exact repr_of_reads' rd hs (fun _ => ns) hg (by omega) (fun _ _ e => e) (fun h' u tk k => ⟨.str _, H, I.kept (t' := tk) k, ⟨_, rfl⟩, q⟩) hz
  | tup h1 h2 =>
    obtain ⟨as, rd, ns⟩ := Dd.readsE I sy ex (.tup h1 h2) ru
    cases ru
    exact repr_of_reads' rd hs (fun _ => ns) hg (by omega) (fun _ _ e => e) (fun h' u tk k => ⟨.str _, H, I.kept (t' := tk) k, ⟨_, rfl⟩, q⟩) hz
  | dct h1 =>
    obtain ⟨as, rd, ns⟩ := Dd.readsE I sy ex (.dct h1) ru
    cases ru
    exact repr_of_reads' rd hs (fun _ => ns) hg (by omega) (fun _ _ e => e) (fun h' u tk k => ⟨.str _, H, I.kept (t' := tk) k, ⟨_, rfl⟩, q⟩) hz
section
variable {R : PyData → Prop}
theorem c_reprN {b : Bool} {d : PyData} (h : Nz b d) (r : R (.str d.shown)) : CallW rReprE [d] R := CallW.flat (fun _ => .str _) r fun B G H σ ρ K0 vs dv Q q => by
  obtain ⟨v, rfl, hv⟩ := dv.one
  have f := okD_f h.ok
  refine ⟨G, v, d, rfl, K0.gh, hv, f.show_, h.dep, ?_, q⟩
  have := PyData.shown_le 45 (by decide) d f.short
  have hw := h.wt
  rw [sizeLine_eq]
  omega
end
end DL

/-! x != [] -/
namespace DL
open PySem PySem.Spec PyProof.Rows L2
def rNeNil : R2 := fun x y H Q => ∃ a b xs, x = .ref a ∧ y = .ref b ∧ H a = some (.lst xs) ∧ H b = some (.lst []) ∧ Q (.bl (!decide (xs = []))) H
theorem op_neNil {X : Cx} (hu : X.A.units + 64 < cLine) : OpR X (compareOp .NotEq) rNeNil := by
  intro pins s σ H x y v u Q I rx ry h
  obtain ⟨a, b, xs, rfl, rfl, ha, hb, q⟩ := h
  cases rx
  cases ry
  obtain ⟨its, rv, hl, _⟩ := I.list (.inl (.inl ha))
  obtain ⟨its2, rv2, hl2, _⟩ := I.list (.inl (.inl hb))
  have e2 : its2 = [] := by
    cases rv2
    rfl
  subst e2
  have hu' : X.A.units < cLine := by omega
  cases rv with
  | nil => exact SeqAt.RcNeAt.lists (e := fun _ => true) hl.isList hl2.isList rfl hu' (fun j h1 _ => absurd h1 (by simp)) _ _ _ _ ⟨.bl _, H, I, rfl, q⟩
  | cons r1 r2 => exact SeqAt.RcNeAt.lists_lengths hl.isList hl2.isList (by simp) hu' _ _ _ _ ⟨.bl _, H, I, rfl, q⟩
theorem o_neNilD {xs : List PyData} {RR : PyData → Prop} (h : RR (.bool (!decide (xs = [])))) : OpW rNeNil (.list xs) (.list []) RR := OpW.flat (fun _ => .bl _) h fun B G H σ ρ K vx vy dx dy Q q => by
  obtain ⟨a, us, rfl, ga, da⟩ := dx.lst'
  obtain ⟨b, ws, rfl, gb, db⟩ := dy.lst'
  have e : ws = [] := by
    cases db
    rfl
  subst e
  refine ⟨a, b, us, rfl, rfl, K.gh _ _ ga, K.gh _ _ gb, ?_⟩
  have : decide (us = []) = decide (xs = []) := by
    cases da <;> simp
  rw [this]
  exact q
theorem mulB {x y : Int} (hx : x.natAbs ≤ 10 ^ 60) (hy : y.natAbs ≤ 10 ^ 60) : CMulW x y := wide_mul (a := 250) (b := 250) (Nat.lt_of_le_of_lt hx (by decide)) (Nat.lt_of_le_of_lt hy (by decide)) (by decide) (by decide) (by decide)
theorem lineK {n : Nat} (h : n ≤ 100000) : n ≤ sizeLine := by
  rw [sizeLine_eq]
  omega
end DL

/-! [f(x, y) for x, y in ps if p(x, y)] -/
namespace DL
open PySem PySem.Spec PyProof.Rows L2
section
variable {ρ : Rho} {R : PyData → Rho → Prop} {RO : List PyData → Rho → Prop} {wi : TI} {tt : TT} {te : TE} {K0 : PySem.W.Frag} {i j : Nat} {α : Type}
theorem set_same {ρ : Rho} {j : Nat} {e : Ent} (h : ρ[j]? = some e) : ρ.set j e = ρ := by
  refine List.ext_getElem? fun k => ?_
  by_cases z : j = k
  · subst z
    rw [List.getElem?_set_self (List.getElem?_eq_some_iff.mp h).1, h]
  · rw [List.getElem?_set_ne z]
theorem wO_mf2 (l : List α) (x y : α → PyData) (p : α → Bool) (f : α → PyData) (hij : i ≠ j) (hni : ρ[i]? = some .no) (hnj : ρ[j]? = some .no) (hz : l.length ≤ sizeLine)
    (hi : wI wi ρ fun ds' ρ1 => ds' = l.map (fun a => .tuple [x a, y a]) ∧ ρ1 = ρ)
    (he : ∀ a ∈ l, wT tt ((ρ.set i (.dat (x a))).set j (.dat (y a))) fun b ρ' => b = p a ∧ ρ' = (ρ.set i (.dat (x a))).set j (.dat (y a)))
    (hc : ∀ a ∈ l, p a = true → wE te ((ρ.set i (.dat (x a))).set j (.dat (y a))) fun e ρ' => e = f a ∧ ρ' = (ρ.set i (.dat (x a))).set j (.dat (y a)))
    (rc : RO ((l.filter p).map f) ρ) : wO (tLc wi (gTup K0 2 (gCons (gName i) (gCons (gName j) gNil))) tt te [i, j]) ρ RO := by
  have hb : ∀ a : α, wipeR ((ρ.set i (.dat (x a))).set j (.dat (y a))) [i, j] = ρ := fun a => by
    show ((((ρ.set i _).set j _).set j .no).set i .no) = ρ
    rw [List.set_set, List.set_comm _ _ (Ne.symm hij), List.set_set, set_same hni, set_same hnj]
  refine wO_lc (fun k hk => ?_) fun B G H σ K RR q => hi B G H σ K RR fun J G' H' ρ' ds' S ⟨e1, e2⟩ it => q J G' H' ρ' ds' S ?_ it
  · rcases List.mem_cons.mp hk with z | z
    · rw [z]
      exact hni
    · rw [List.mem_singleton.mp z]
      exact hnj
  · subst ds'
    subst ρ'
    refine ⟨fun i acc ρ' => acc = (((l.take i).filter p).map f) ∧ ρ' = ρ, ⟨by simp, rfl⟩, fun acc ρ' ⟨a, b⟩ => ?_, fun n d acc ρ' hd ⟨a, b⟩ => ?_⟩
    · rw [a, b, List.length_map, List.take_length]
      exact rc
    · subst ρ'
      rw [List.getElem?_map] at hd
      cases q : l[n]? with
      | none =>
        rw [q] at hd
        cases hd
      | some v =>
        rw [q] at hd
        cases hd
        have hx := List.mem_of_getElem? q
        have hil : n < l.length := (List.getElem?_eq_some_iff.mp q).1
        have ht : l.take (n + 1) = l.take n ++ [v] := by
          rw [List.take_succ, q]
          rfl
        refine gc_two hij ((he v hx).imp fun b ρ' ⟨hp, e⟩ => ?_)
        subst ρ'
        subst b
        cases hpx : p v with
        | true =>
          rw [if_pos rfl]
          refine (hc v hx hpx).imp fun e' ρ2 ⟨a1, a2⟩ => ?_
          subst e'
          subst ρ2
          refine ⟨?_, ?_, hb v⟩
          · rw [a, List.length_map]
            have := List.length_filter_le p (l.take n)
            rw [List.length_take] at this
            omega
          · rw [a, ht, List.filter_append, List.map_append]
            simp [hpx]
        | false =>
          rw [if_neg Bool.false_ne_true]
          refine ⟨?_, hb v⟩
          rw [a, ht, List.filter_append]
          simp [hpx]
theorem w_mf2 (l : List α) (x y : α → PyData) (p : α → Bool) (f : α → PyData) (hij : i ≠ j) (hni : ρ[i]? = some .no) (hnj : ρ[j]? = some .no) (hz : l.length ≤ sizeLine)
    (hi : wI wi ρ fun ds' ρ1 => ds' = l.map (fun a => .tuple [x a, y a]) ∧ ρ1 = ρ)
    (he : ∀ a ∈ l, wT tt ((ρ.set i (.dat (x a))).set j (.dat (y a))) fun b ρ' => b = p a ∧ ρ' = (ρ.set i (.dat (x a))).set j (.dat (y a)))
    (hc : ∀ a ∈ l, p a = true → wE te ((ρ.set i (.dat (x a))).set j (.dat (y a))) fun e ρ' => e = f a ∧ ρ' = (ρ.set i (.dat (x a))).set j (.dat (y a)))
    (rc : R (.list ((l.filter p).map f)) ρ) : wE (tLc wi (gTup K0 2 (gCons (gName i) (gCons (gName j) gNil))) tt te [i, j]) ρ R :=
  (wO_mf2 (RO := fun ds ρ1 => R (.list ds) ρ1) l x y p f hij hni hnj hz hi he hc rc).fr fun _ _ r => r
end
end DL

/-! a text times an int; lists added up anew; data by levels. -/
namespace DL
open PySem PySem.Spec PyProof.Rows L2
open Evl (Ex)
def repT (a : Str) (n : Nat) : Str := ⟨(List.replicate n a.cps).foldl (· ++ ·) #[]⟩
theorem rep_len (a : Array Nat) : ∀ (n : Nat) (b : Array Nat), ((List.replicate n a).foldl (· ++ ·) b).size = b.size + n * a.size
  | 0, b => by simp
  | n + 1, b => by
    rw [List.replicate_succ, List.foldl_cons, rep_len a n, Array.size_append, Nat.succ_mul]
    omega
def rRepS : R2 := fun x y H Q => ∃ (a : Str) (n : Nat), x = .str a ∧ y = .int n ∧ 1 < n ∧ n ≤ 1000 ∧ 0 < a.length ∧ a.length ≤ 1000 ∧ Q (.str (repT a n)) H
theorem op_repS {X : Cx} : OpR X (binaryOp .Mult) rRepS := by
  intro pins s σ H x y v u Q I rx ry h
  obtain ⟨a, n, rfl, rfl, h1, h2, h3, h4, q⟩ := h
  obtain ⟨tx, rfl⟩ := rx
  obtain ⟨ty, rfl⟩ := ry
  have hm : a.length * n ≤ 1000000 := Nat.le_trans (Nat.mul_le_mul h4 h2) (by decide)
  have h0 : ¬ (n : Int) < 1 := by omega
  have hn1 : (((n : Int) == 1) || a.length == 0) = false := by
    rw [Bool.or_eq_false_iff]
    refine ⟨?_, ?_⟩
    · simp
      omega
    · simp
      omega
  refine PySem.P.mul_str (by
      have h5 : ¬ (n : Int) < -(2 ^ 63) := by omega
      have h6 : ¬ (n : Int) ≥ 2 ^ 63 := by omega
      rw [decide_eq_false h5, decide_eq_false h6]; rfl) (fun _ _ => ?_) (fun _ _ => ?_) ?_
  · have : (2 ^ 63 - 1 : Int) / 1000 ≤ (2 ^ 63 - 1) / (n : Int) := by
      refine Int.le_ediv_of_mul_le (by omega) ?_
      have : (2 ^ 63 - 1 : Int) / 1000 = 9223372036854775 := by decide
      rw [this]
      omega
    have e : (2 ^ 63 - 1 : Int) / 1000 = 9223372036854775 := by decide
    omega
  · unfold Builtin.Str.tooLong
    rw [Int.toNat_natCast]
    simp only [gt_iff_lt, decide_eq_false_iff_not, Nat.not_lt, sizeLine_eq]
    omega
  · rw [if_neg h0, if_neg (by rw [hn1]; exact Bool.false_ne_true), Int.toNat_natCast]
    refine ⟨?_, .str _, H, I.tok _, ⟨_, rfl⟩, q⟩
    show (repT a n).cps.size ≤ sizeLine
    rw [repT, rep_len, sizeLine_eq]
    have : a.cps.size = a.length := rfl
    rw [this, Nat.mul_comm]
    simp
    omega
section
variable {ρ : Rho} {R : PyData → Rho → Prop} {RR : PyData → Prop} {RO : List PyData → Rho → Prop} {ta tb te : TE} {K : PySem.W.Frag}
theorem o_repS {a : Str} {n : Nat} (h1 : 1 < n) (h2 : n ≤ 1000) (h3 : 0 < a.length) (h4 : a.length ≤ 1000) (r : RR (.str (repT a n))) : OpW rRepS (.str a) (.int (n : Int)) RR := OpW.flat (fun _ => .str _) r fun B G H σ ρ K vx vy dx dy Q q => ⟨a, n, dx.str', dy.int', h1, h2, h3, h4, q⟩
/-- a + b, an own list -/
theorem wO_add (h : wE ta ρ fun x ρ1 => wE tb ρ1 fun y ρ2 => ∃ xs ys, x = .list xs ∧ y = .list ys ∧ xs.length + ys.length ≤ sizeLine ∧ RO (xs ++ ys) ρ2) : wO (tOp (rAddX K) ta tb) ρ RO := wO_of_new fun B G H σ K Q q =>
  h B G H σ K _ fun vx G1 H1 ρ1 x S1 r1 d1 => r1 B G1 H1 σ S1.ok _ fun vy G2 H2 ρ2 y S2 ⟨xs, ys, ex, ey, hz, r⟩ d2 => by
    subst ex
    subst ey
    obtain ⟨a, us, rfl, ga, da⟩ := (d1.mono S2.ex).lst'
    obtain ⟨b, ws, rfl, gb, db⟩ := d2.lst'
    exact .inr (.inr (.inl ⟨a, b, us, ws, rfl, rfl, S2.ok.gh _ _ ga, S2.ok.gh _ _ gb, by rw [da.length, db.length]; exact hz, q _ G2 H2 ρ2 _ (S1.trans S2) r (da.append db)⟩))
end
/-! ### data by levels -/
def Wn : Nat → Nat
  | 0 => 13
  | n + 1 => 8 * (Wn n + 1)
def Cl (b : Bool) (n : Nat) (d : PyData) : Prop := Sm b n (Wn n) d
def Al (b : Bool) (n : Nat) (xs : List PyData) : Prop := ∀ x ∈ xs, Cl b n x
theorem Wn_mono : ∀ n, Wn n ≤ Wn (n + 1) := fun n => by
  show Wn n ≤ 8 * (Wn n + 1)
  omega
theorem Wn_20 : ∀ n, 13 ≤ Wn n
  | 0 => Nat.le_refl _
  | n + 1 => Nat.le_trans (Wn_20 n) (Wn_mono n)
theorem Cl.up {b : Bool} {n : Nat} {d : PyData} (h : Cl b n d) : Cl b (n + 1) d := h.mono (Nat.le_succ n) (Wn_mono n)
theorem Cl.nz {b : Bool} {n : Nat} {d : PyData} (h : Cl b n d) (hn : n ≤ 4 := by decide) : Nz b d := Nz.of h (by omega) (by
  have : Wn n ≤ Wn 4 := by
    match n, hn with
    | 0, _ => decide
    | 1, _ => decide
    | 2, _ => decide
    | 3, _ => decide
    | 4, _ => decide
  exact Nat.le_trans this (by decide))
theorem Cl.list {b : Bool} {n : Nat} {xs : List PyData} (h : Al b n xs) (hl : xs.length ≤ 8) : Cl b (n + 1) (.list xs) := Sm.list h hl
theorem Cl.tup {b : Bool} {n : Nat} {xs : List PyData} (h : Al b n xs) (hl : xs.length ≤ 8) : Cl b (n + 1) (.tuple xs) := Sm.tup h hl
theorem Cl.str {b : Bool} {n : Nat} {z : Str} (h : ∀ c ∈ z.cps.toList, c < 0x110000) (hl : z.length ≤ 13) : Cl b n (.str z) := (Sm.str h hl).mono (Nat.zero_le _) (Wn_20 n)
theorem Cl.non {b : Bool} {n : Nat} : Cl b n .none := ⟨by simp [okD], by simp [PyData.depth], by simp [PyData.weight]⟩
theorem Cl.int {b : Bool} {n : Nat} {i : Int} (h : i.natAbs < 10 ^ 40 := by decide) (h2 : (PyData.int i).weight ≤ 13 := by decide) : Cl b n (.int i) := ⟨by simp [okD, h], by simp [PyData.depth], Nat.le_trans h2 (Wn_20 n)⟩
theorem Cl.dct {n : Nat} : Cl true (n + 1) (.dict []) := ⟨by simp [okD], by simp [PyData.depth, PyData.depthKv], by simp [PyData.weight, PyData.weightKv]⟩
theorem Cl.lit {b : Bool} {n : Nat} {z : Str} (h : (z.cps.toList.all (fun c => decide (c < 0x110000)) && decide (z.length ≤ 13)) = true := by decide) : Cl b n (.str z) := by
  simp only [Bool.and_eq_true, List.all_eq_true, decide_eq_true_eq] at h
  exact Cl.str h.1 h.2
theorem Al.nil {b : Bool} {n : Nat} : Al b n [] := fun x hx => by simp at hx
theorem Al.cons {b : Bool} {n : Nat} {x : PyData} {xs : List PyData} (h : Cl b n x) (t : Al b n xs) : Al b n (x :: xs) := fun y hy => by
  rcases List.mem_cons.mp hy with q | q
  · rw [q]
    exact h
  · exact t y q
theorem Al.app {b : Bool} {n : Nat} {xs ys : List PyData} (h : Al b n xs) (t : Al b n ys) : Al b n (xs ++ ys) := fun y hy => (List.mem_append.mp hy).elim (h y) (t y)
theorem Al.take {b : Bool} {n k : Nat} {xs : List PyData} (h : Al b n xs) : Al b n (xs.take k) := fun y hy => h y (List.mem_of_mem_take hy)
theorem Al.drop {b : Bool} {n k : Nat} {xs : List PyData} (h : Al b n xs) : Al b n (xs.drop k) := fun y hy => h y (List.mem_of_mem_drop hy)
theorem Al.cut {b : Bool} {n : Nat} {lo hi : Option Int} {xs : List PyData} (h : Al b n xs) : Al b n (cutD xs lo hi) := Al.take (Al.drop h)
theorem Al.up {b : Bool} {n : Nat} {xs : List PyData} (h : Al b n xs) : Al b (n + 1) xs := fun y hy => (h y hy).up
theorem cut_len {xs : List PyData} {lo hi : Option Int} : (cutD xs lo hi).length ≤ xs.length := by
  unfold cutD
  rw [List.length_take, List.length_drop]
  omega
theorem Cl.lift {b : Bool} {D W n : Nat} {d : PyData} (h : Sm b D W d) (hD : D ≤ n) (hW : W ≤ Wn n) : Cl b n d := h.mono hD hW
theorem first_idx {α : Type} {p : α → Bool} : ∀ {l : List α}, (∃ z ∈ l, p z = true) → ∃ (j : Nat) (z : α), l[j]? = some z ∧ p z = true ∧ ∀ (m : Nat) (z' : α), m < j → l[m]? = some z' → p z' = false
  | [], ⟨z, h, _⟩ => by simp at h
  | x :: l, ⟨z, h, hp⟩ => by
    cases q : p x with
    | true => exact ⟨0, x, rfl, q, fun m z' hm => by omega⟩
    | false =>
      have : ∃ z ∈ l, p z = true := by
        rcases List.mem_cons.mp h with e | e
        · rw [e, q] at hp
          cases hp
        · exact ⟨z, e, hp⟩
      obtain ⟨j, z, h1, h2, h3⟩ := first_idx this
      refine ⟨j + 1, z, h1, h2, fun m z' hm hz => ?_⟩
      cases m with
      | zero =>
        cases hz
        exact q
      | succ m => exact h3 m z' (by omega) hz
end DL

/-! rows of items by what is known of each. -/
namespace DL
open PySem PySem.Spec PyProof.Rows L2
section
variable {ρ : Rho} {ts : TA} {te : TE} {C : PyData → Prop} {K : PySem.W.Frag} {k : Nat}
theorem wA.imp {R R' : List PyData → Rho → Prop} (h : wA ts ρ R) (i : ∀ d ρ', R d ρ' → R' d ρ') : wA ts ρ R' := fun B G H σ K Q q => h B G H σ K Q fun v G' H' ρ' d S r => q v G' H' ρ' d S (i d ρ' r)
def Each (C : PyData → Prop) (k : Nat) (ρ : Rho) (ds : List PyData) (ρ1 : Rho) : Prop := (∀ d ∈ ds, C d) ∧ ds.length = k ∧ ρ1 = ρ
theorem ea_nil : wA tNil ρ (Each C 0 ρ) := w_nil ⟨by simp, rfl, rfl⟩
theorem ea_cons (h : wE te ρ fun d ρ1 => C d ∧ ρ1 = ρ) (t : wA ts ρ (Each C k ρ)) : wA (tCons te ts) ρ (Each C (k + 1) ρ) := w_cons (h.imp fun d ρ1 ⟨c, e⟩ => by
  subst e
  exact t.imp fun ds ρ2 ⟨a, b, e⟩ => ⟨fun x hx => (List.mem_cons.mp hx).elim (fun z => by rw [z]; exact c) (a x), by rw [List.length_cons, b], e⟩)
theorem len_app {xs ys : List PyData} {a b n : Nat} (hx : xs.length ≤ a) (hy : ys.length ≤ b) (h : a + b ≤ n := by decide) : (xs ++ ys).length ≤ n := by
  rw [List.length_append]
  omega
theorem cut_le {xs : List PyData} {lo hi : Option Int} {n : Nat} (h : xs.length ≤ n) : (cutD xs lo hi).length ≤ n := Nat.le_trans cut_len h
theorem add_sz {xs ys : List PyData} (hx : xs.length ≤ 1000 := by (first | exact Nat.le_of_ble_eq_true rfl | exact cut_le (Nat.le_of_ble_eq_true rfl))) (hy : ys.length ≤ 1000 := by (first | exact Nat.le_of_ble_eq_true rfl | exact cut_le (Nat.le_of_ble_eq_true rfl))) : xs.length + ys.length ≤ sizeLine := by
  rw [sizeLine_eq]
  omega
end
end DL

/-! What a call of a callable raises; the raw state between statements where code tables grow; lambdas kept in a list. -/
namespace DL
open PySem PySem.Spec PyProof.Rows L2 ErX ClX LamX
open Evl (Ex)
/-- the callable raises an error of class C, its value stands for d -/
def Rs (C : Addr) (d : PyData) (G0 H0 : Hp) (tl : XK → Hp → VK → Prop) : Prop := ∀ H E Q, Ex H0 H → (∀ G' H' v e, Ex G0 G' → Ex H H' → Ex G' H' → Dd G' v d → H' e = none → E (.ref C) (some e) (upd H' e (.xd [("value", v)]))) → tl E H Q
theorem ex_upd {H : Hp} {a : Addr} {o : HO} (h : H a = none) : Ex H (upd H a o) := fun b u e => by
  rw [upd_ne (fun z => by rw [z, h] at e; cases e)]
  exact e
section
variable {cs : Addr → Option Obj}
/-- the wish of a lambda's body at the heap without the pinned cells -/
abbrev liftE (cs : Addr → Option Obj) (E : XK) : XK := fun cls d H2 => (∀ b o, cs b = some o → H2 b = none) → E cls d (over cs H2)
theorem over_upd {H : Hp} {e : Addr} {o : HO} (h : cs e = none) : over cs (upd H e o) = upd (over cs H) e o := by
  funext b
  by_cases z : b = e
  · subst z
    rw [upd_same]
    cases q : cs b with
    | none => rw [over_none q, upd_same]
    | some u => rw [q] at h; cases h
  · rw [upd_ne z]
    cases q : cs b with
    | none => rw [over_none q, over_none q, upd_ne z]
    | some u => rw [over_some q, over_some q]
theorem ex_over {G H : Hp} (h : Ex G H) (n : ∀ b o, cs b = some o → H b = none) : Ex G (over cs H) := fun b o e => by
  have e1 := h b o e
  cases q : cs b with
  | none => rw [over_none q]; exact e1
  | some u => rw [n b u q] at e1; cases e1
/-- a raising call in a lambda: what it raises -/
theorem rs_of {n : Nat} {Pre : List PyData → Prop} {Post : List PyData → PyData → Prop} {Bad : BadT} {ta : TA} {σ : L2.St} {G H1 : Hp} {vs : List V} {ds : List PyData} {C : Addr} {d : PyData} (hta : ∀ Hm (k : List V → Hp → Prop), k vs Hm → ta σ Hm k) (n1 : ∀ b o, cs b = some o → H1 b = none) (ge : Ex G H1)
    (hd : DdAll G vs ds) (hl : ds.length = n) (pre : Pre ds) (hpost : ∀ d', ¬ Post ds d') (hbad : ∀ C' x, Bad ds C' x → C' = C ∧ x = d) :
    Rs C d G (over cs H1) (fun E H' Q => tCall (spR n Pre Post Bad) [] (liftE cs E) ta σ (mask cs H') fun v H2 => Q v (over cs H2)) := fun H E Q ex hE => by
  refine hta _ _ ?_
  show spR n Pre Post Bad (vs ++ []) _ _ _
  rw [List.append_nil]
  have gm : Ex G (mask cs H) := fun b o e => by
    have e1 := ge b o e
    cases q : cs b with
    | none =>
      rw [mask_none q]
      exact ex b o (by rw [over_none q]; exact e1)
    | some u => rw [n1 b u q] at e1; cases e1
  refine ⟨G, ds, gm, hd, hl, pre, fun v G' H' d' _ _ _ _ hp _ => absurd hp (hpost d'), fun C' x v e G' H' a1 a2 a3 a4 hb dv he n2 => ?_⟩
  obtain ⟨rfl, rfl⟩ := hbad C' x hb
  have ce : cs e = none := by
    cases q : cs e with
    | none => rfl
    | some u =>
      have z := n2 e u q
      rw [upd_same] at z
      cases z
  have n3 : ∀ b o, cs b = some o → H' b = none := fun b o q => by
    have z := n2 b o q
    rw [upd_ne (fun y => by rw [y, ce] at q; cases q)] at z
    exact z
  rw [over_upd ce]
  refine hE G' (over cs H') v e a2 (fun b o e' => ?_) (ex_over a3 n3) dv (by rw [over_none ce]; exact he)
  cases q : cs b with
  | none =>
    rw [over_none q]
    exact a1 b o (by rw [mask_none q]; exact e')
  | some u =>
    rw [over_some q]
    have z := ex b _ (over_some (H := H1) q)
    rw [← z]
    exact e'.symm ▸ rfl
theorem rs_ofO {n : Nat} {Pre : List PyData → Prop} {Post : List PyData → List PyData → Prop} {Bad : BadT} {ta : TA} {σ : L2.St} {G H1 : Hp} {vs : List V} {ds : List PyData} {C : Addr} {d : PyData} (hta : ∀ Hm (k : List V → Hp → Prop), k vs Hm → ta σ Hm k) (n1 : ∀ b o, cs b = some o → H1 b = none) (ge : Ex G H1)
    (hd : DdAll G vs ds) (hl : ds.length = n) (pre : Pre ds) (hpost : ∀ d', ¬ Post ds d') (hbad : ∀ C' x, Bad ds C' x → C' = C ∧ x = d) :
    Rs C d G (over cs H1) (fun E H' Q => tCall (spRO n Pre Post Bad) [] (liftE cs E) ta σ (mask cs H') fun v H2 => Q v (over cs H2)) := fun H E Q ex hE => by
  have h := rs_of (cs := cs) (Pre := Pre) (Post := fun ds d => ∃ es, d = .list es ∧ Post ds es) (Bad := Bad) (σ := σ) (ta := fun _ Hm k => k vs Hm) (fun _ _ h => h) n1 ge hd hl pre (fun d' ⟨es, _, hp⟩ => hpost es hp) hbad H E Q ex hE
  refine hta _ _ ?_
  have h : spR n Pre (fun ds d => ∃ es, d = .list es ∧ Post ds es) Bad (vs ++ []) (mask cs H) (fun v H2 => Q v (over cs H2)) (liftE cs E) := h
  exact spRO_R _ _ _ _ h
end
/-! ### the raw layer: the state between statements, where code tables grow -/
def plainE : Ent → Prop
  | .no => True
  | .dat _ => True
  | .gen _ => True
  | .own _ => False
  | .raw _ => False
def Plain (ρ : Rho) : Prop := ∀ (i : Nat) (e : Ent), ρ[i]? = some e → plainE e
def NoTbl (G : Hp) : Prop := ∀ a ps, G a ≠ some (.tbl ps)
def Rw (T : List (Addr × Str)) (γ : Addr) (σ : L2.St) (ρ : Rho) (H : Hp) : Prop := ∃ G, Ok ⟨some γ, G, H⟩ G H σ ρ ∧ NoTbl G ∧ Tabs T H ∧ Plain ρ ∧ ∃ xs, H γ = some (.lst xs)
/-- all stays but the generator and the tables -/
def KeepN (γ : Addr) (H H' : Hp) : Prop := ∀ a o, H a = some o → a ≠ γ → (∀ ps, o ≠ .tbl ps) → H' a = some o
theorem KeepN.refl (γ : Addr) (H : Hp) : KeepN γ H H := fun _ _ h _ _ => h
theorem KeepN.trans {γ : Addr} {H H1 H2 : Hp} (a : KeepN γ H H1) (b : KeepN γ H1 H2) : KeepN γ H H2 := fun c o h n t => b c o (a c o h n t) n t
theorem KeepN.of {γ : Addr} {H H' : Hp} (e : ExtN H H') : KeepN γ H H' := fun a o h _ t => e a o h t
open Classical in
/-- without the tables -/
noncomputable def prune (G : Hp) : Hp := fun a => if ∃ ps, G a = some (.tbl ps) then none else G a
theorem prune_at {G : Hp} {a : Addr} {o : HO} (h : prune G a = some o) : G a = some o := by
  unfold prune at h
  split at h
  · cases h
  · exact h
theorem prune_of {G : Hp} {a : Addr} {o : HO} (h : G a = some o) (n : ∀ ps, o ≠ .tbl ps) : prune G a = some o := by
  unfold prune
  rw [if_neg]
  · exact h
  · rintro ⟨ps, e⟩
    rw [h] at e
    exact n ps (Option.some.inj e)
theorem prune_no (G : Hp) : NoTbl (prune G) := fun a ps h => by
  unfold prune at h
  split at h
  · cases h
  · rename_i z
    exact z ⟨ps, h⟩
mutual
theorem dd_prune {G : Hp} : ∀ {v : V} {d : PyData}, Dd G v d → Dd (prune G) v d
  | _, _, .non => .non
  | _, _, .bl b => .bl b
  | _, _, .int i => .int i
  | _, _, .str x => .str x
  | _, _, .lst h a => .lst (prune_of h fun _ z => nomatch z) (ddall_prune a)
  | _, _, .tup h a => .tup (prune_of h fun _ z => nomatch z) (ddall_prune a)
  | _, _, .dct h => .dct (prune_of h fun _ z => nomatch z)
theorem ddall_prune {G : Hp} : ∀ {vs : List V} {ds : List PyData}, DdAll G vs ds → DdAll (prune G) vs ds
  | _, _, .nil => .nil
  | _, _, .cons h t => .cons (dd_prune h) (ddall_prune t)
end
theorem tabs_but {T : List (Addr × Str)} {γ : Addr} {H H' : Hp} {xs : List V} (t : Tabs T H) (hg : H γ = some (.lst xs)) (e : ∀ a o, H a = some o → a ≠ γ → H' a = some o) : Tabs T H' := fun p hp => by
  obtain ⟨ps, h1, h2, h3⟩ := t p hp
  refine ⟨ps, e _ _ h1 (fun z => ?_), h2, fun pos cv hc => ?_⟩
  · rw [z, hg] at h1
    cases h1
  · obtain ⟨c, e1, e2⟩ := h3 pos cv hc
    refine ⟨c, e1, e _ _ e2 (fun z => ?_)⟩
    rw [z, hg] at e2
    cases e2
theorem not_own {ρ : Rho} (p : Plain ρ) {i : Nat} {ds : List PyData} (h : ρ[i]? = some (.own ds)) : False := p i _ h
/-- behind a step of the data layer -/
theorem rw_rebase {T : List (Addr × Str)} {γ : Addr} {σ σ' : L2.St} {ρ ρ' : Rho} {G G' H H' : Hp} {xs : List V} (ok : Ok ⟨some γ, G, H⟩ G' H' σ' ρ') (ht : Tabs T H) (hg : H γ = some (.lst xs)) (p : Plain ρ') (hg' : ∃ ys, H' γ = some (.lst ys)) : Rw T γ σ' ρ' H' := by
  refine ⟨prune G', ⟨Ex.refl _, fun a o h => ok.gh a o (prune_at h), fun a o h h' => (nomatch (show some o = none from h.symm.trans h')), fun _ _ h _ => h, fun a z => ?_, ok.len, fun i e s hi hs => ?_, fun i j di dj a hi => (not_own p hi).elim⟩, prune_no _, tabs_but ht hg fun a o h n => ok.kp a o h (fun z => n (Option.some.inj z).symm), p, hg'⟩
  · obtain ⟨h1, h2, h3⟩ := ok.gm a z
    refine ⟨?_, h2, h2⟩
    cases q : prune G' a with
    | none => rfl
    | some o =>
      rw [prune_at q] at h1
      cases h1
  · have h := ok.en i e s hi hs
    have pe := p i e hi
    cases e with
    | no => trivial
    | dat d =>
      obtain ⟨v, h1, h2⟩ := h
      exact ⟨v, h1, dd_prune h2⟩
    | gen g => exact h
    | own ds => exact pe.elim
    | raw φ => exact pe.elim
/-- what else keeps the state -/
theorem rw_ext {T : List (Addr × Str)} {γ : Addr} {σ : L2.St} {ρ : Rho} {H H' : Hp} (h : Rw T γ σ ρ H) (e : ExtN H H') (ht : Tabs T H') : Rw T γ σ ρ H' := by
  obtain ⟨G, ok, nt, _, p, xs, hx⟩ := h
  have ge : Ex G H' := fun a o q => e a o (ok.gh a o q) fun ps z => nt a ps (by rw [q, z])
  have hx' : H' γ = some (.lst xs) := e γ _ hx fun ps z => nomatch z
  refine ⟨G, ⟨Ex.refl _, ge, fun a o h h' => (nomatch (show some o = none from h.symm.trans h')), fun _ _ h _ => h, fun a z => ?_, ok.len, fun i t s hi hs => ?_, fun i j di dj a hi => (not_own p hi).elim⟩, nt, ht, p, xs, hx'⟩
  · obtain rfl : γ = a := Option.some.inj z
    exact ⟨(ok.gm _ z).1, ⟨_, hx'⟩, ⟨_, hx'⟩⟩
  · have h := ok.en i t s hi hs
    have pe := p i t hi
    cases t with
    | no => trivial
    | dat d => exact h
    | gen g =>
      obtain ⟨a, h1, h2, h3⟩ := h
      exact ⟨a, h1, h2, e a _ h3 fun ps z => nomatch z⟩
    | own ds => exact pe.elim
    | raw φ => exact pe.elim
/-- a statement of the data layer -/
theorem rw_step {T : List (Addr × Str)} {γ : Addr} {σ : L2.St} {ρ : Rho} {H : Hp} {ts : TS} {D : L2.Ends} {N : Rho → Prop} {Rt : PyData → Rho → Prop} (h : Rw T γ σ ρ H) (w : wS ts ρ ⟨fun ρ' => Plain ρ' ∧ (∃ g : Int × Int × Int, ∃ i : Nat, ρ'[i]? = some (.gen g)) ∧ N ρ', Rt, fun _ => False, fun _ => False⟩)
    (nx : ∀ σ' H' ρ', Rw T γ σ' ρ' H' → KeepN γ H H' → N ρ' → D.nx σ' H') (rt : ∀ v H' ρ' d G', Rt d ρ' → KeepN γ H H' → Tabs T H' → Dd G' v d → D.rt v H') : ts D σ H := by
  obtain ⟨G, ok, nt, ht, p, xs, hx⟩ := h
  refine w ⟨some γ, G, H⟩ G H σ ok D ⟨fun G' H' σ' ρ' k e ⟨p', ⟨g, i, hi⟩, hn⟩ => ?_, fun v G' H' σ' ρ' d k e r dv => ?_, fun _ _ _ _ _ _ z => z.elim, fun _ _ _ _ _ _ z => z.elim⟩
  · have hi2 : i < σ'.length := by
      rw [k.len]
      exact (List.getElem?_eq_some_iff.mp hi).1
    obtain ⟨a, _, h2, h3⟩ := k.en i _ _ hi (List.getElem?_eq_getElem hi2)
    obtain rfl : γ = a := Option.some.inj h2
    exact nx σ' H' ρ' (rw_rebase (σ := σ) (ρ := ρ) k ht hx p' ⟨_, h3⟩) (fun a o h n _ => k.kp a o h (fun z => n (Option.some.inj z).symm)) hn
  · exact rt v H' ρ' d G' r (fun a o h n _ => k.kp a o h (fun z => n (Option.some.inj z).symm)) (tabs_but ht hx fun a o h n => k.kp a o h (fun z => n (Option.some.inj z).symm)) dv
theorem tabs_ex {T : List (Addr × Str)} {H H' : Hp} (t : Tabs T H) (e : Ex H H') : Tabs T H' := fun p hp => (t p hp).ext e
section
variable {X : Cx} {T : List (Addr × Str)} {γ CT CL C : Addr} {σ : L2.St} {ρ : Rho} {H : Hp} {params : Arguments} {body : Expr} {scope : Scope} {i j place n : Nat} {d di dj : PyData} {t : XK → TE} {u : TS} {D : L2.Ends}
/-- at f stands a lambda made here -/
def LamAt (X : Cx) (params : Arguments) (body : Expr) (scope : Scope) (f : Addr) (H : Hp) : Prop := ∃ (c' : Addr) (pm ctv : Value), H f = some (pinO (lamObj X params body scope pm c' ctv) f) ∧ H c' = some (CodeO c' (X.env.qual ++ "<lambda>"))
theorem pinO_tbl {o : Obj} {a : Addr} (ps : Array Value) : pinO o a ≠ .tbl ps := fun z => by
  unfold pinO at z
  cases z
theorem pinO_lst {o : Obj} {a : Addr} {xs : List V} : pinO o a ≠ .lst xs := fun z => by
  unfold pinO at z
  cases z
theorem codeO_lst {c : Addr} {q : Str} {xs : List V} : CodeO c q ≠ .lst xs := fun z => by
  unfold CodeO at z
  cases z
/-- all but the list at p, the generator and the tables stays -/
theorem LamAt.keep {f : Addr} {H' : Hp} {p : Addr} {xs : List V} (h : LamAt X params body scope f H) (hp : H p = some (.lst xs)) (k : ∀ a o, H a = some o → a ≠ p → (∀ ps, o ≠ .tbl ps) → H' a = some o) : LamAt X params body scope f H' := by
  obtain ⟨c', pm, ctv, h1, h2⟩ := h
  refine ⟨c', pm, ctv, k _ _ h1 (fun z => ?_) pinO_tbl, k _ _ h2 (fun z => ?_) codeO_ne⟩
  · subst z
    rw [hp] at h1
    exact pinO_lst (Option.some.inj h1).symm
  · subst z
    rw [hp] at h2
    exact codeO_lst (Option.some.inj h2).symm
theorem Rw.gam (h : Rw T γ σ ρ H) : ∃ xs, H γ = some (.lst xs) := by
  obtain ⟨_, _, _, _, _, x⟩ := h
  exact x
theorem Rw.tabs (h : Rw T γ σ ρ H) : Tabs T H := by
  obtain ⟨_, _, _, x, _, _⟩ := h
  exact x
theorem LamAt.keepN {f : Addr} {H' : Hp} (h : LamAt X params body scope f H) (w : ∃ xs, H γ = some (.lst xs)) (k : KeepN γ H H') : LamAt X params body scope f H' := by
  obtain ⟨xs, hx⟩ := w
  exact h.keep hx k
/-- the generator at the end -/
theorem Rw.gen {g : Int × Int × Int} (h : Rw T γ σ ρ H) (hi : ρ[i]? = some (.gen g)) : H γ = some (.lst (genV g)) := by
  obtain ⟨G, ok, _⟩ := h
  obtain ⟨s, hs, a, e1, e2, e3⟩ := ok.slot hi
  cases e2
  exact e3
theorem Rw.len (h : Rw T γ σ ρ H) : σ.length = ρ.length := by
  obtain ⟨G, ok, _⟩ := h
  exact ok.len
/-- a slot of which nothing is told gets a value -/
theorem rw_setN {s : Option V} (h : Rw T γ σ ρ H) (hi : ρ[i]? = some .no) : Rw T γ (σ.set i s) ρ H := by
  obtain ⟨G, ok, nt, ht, p, x⟩ := h
  refine ⟨G, ⟨ok.g0, ok.gh, ok.nw, ok.kp, ok.gm, by rw [List.length_set]; exact ok.len, fun k e s' hk hs => ?_, fun a b da db c ha => (not_own p ha).elim⟩, nt, ht, p, x⟩
  by_cases z : i = k
  · subst z
    rw [hi] at hk
    cases hk
    trivial
  · rw [List.getElem?_set_ne z] at hs
    exact ok.en k e s' hk hs
theorem rw_forget (h : Rw T γ σ ρ H) (i : Nat) : Rw T γ σ (ρ.set i .no) H := by
  obtain ⟨G, ok, nt, ht, p, x⟩ := h
  have pl : Plain (ρ.set i .no) := fun k e hk => by
    by_cases z : i = k
    · subst z
      have hj := (List.getElem?_eq_some_iff.mp hk).1
      rw [List.length_set] at hj
      rw [List.getElem?_set_self hj] at hk
      cases hk
      trivial
    · rw [List.getElem?_set_ne z] at hk
      exact p k e hk
  refine ⟨G, ⟨ok.g0, ok.gh, ok.nw, ok.kp, ok.gm, by rw [List.length_set]; exact ok.len, fun k e s' hk hs => ?_, fun a b da db c ha => (not_own pl ha).elim⟩, nt, ht, pl, x⟩
  by_cases z : i = k
  · subst z
    have hj := (List.getElem?_eq_some_iff.mp hk).1
    rw [List.length_set] at hj
    rw [List.getElem?_set_self hj] at hk
    cases hk
    trivial
  · rw [List.getElem?_set_ne z] at hk
    exact ok.en k e s' hk hs
/-- the state while a list of lambdas is made at p -/
structure RwL (X : Cx) (T : List (Addr × Str)) (γ : Addr) (σ : L2.St) (ρ : Rho) (Hb H : Hp) (p : Addr) (fs : List Addr) : Prop where
  rw : ∃ G, Ok ⟨some γ, G, H⟩ G H σ ρ ∧ NoTbl G ∧ Tabs T H ∧ Plain ρ ∧ (∃ xs, H γ = some (.lst xs)) ∧ G p = none
  ne : p ≠ γ
  kp : KeepN γ Hb H
  hb : ∀ o, Hb p = some o → ∃ ps, o = .tbl ps
  at_ : H p = some (.lst (fs.map V.ref))
theorem RwL.w {Hb : Hp} {p : Addr} {fs : List Addr} (h : RwL X T γ σ ρ Hb H p fs) : Rw T γ σ ρ H := by
  obtain ⟨G, ok, nt, ht, pl, x, _⟩ := h.rw
  exact ⟨G, ok, nt, ht, pl, x⟩
/-- the heap changed at p alone -/
theorem ok_but {G H' : Hp} {p : Addr} {xs : List V} (ok : Ok ⟨some γ, G, H⟩ G H σ ρ) (nt : NoTbl G) (pl : Plain ρ) (hx : H γ = some (.lst xs)) (hp : G p = none) (ne : p ≠ γ) (e : ∀ a o, H a = some o → a ≠ p → (∀ ps, o ≠ .tbl ps) → H' a = some o) : Ok ⟨some γ, G, H'⟩ G H' σ ρ ∧ H' γ = some (.lst xs) := by
  have hx' : H' γ = some (.lst xs) := e γ _ hx (fun z => ne z.symm) fun ps z => nomatch z
  refine ⟨⟨Ex.refl _, fun a o q => e a o (ok.gh a o q) (fun z => by rw [z, hp] at q; cases q) fun ps z => nt a ps (by rw [q, z]), fun a o h h' => (nomatch (show some o = none from h.symm.trans h')), fun _ _ h _ => h, fun a z => ?_, ok.len, fun i t s hi hs => ?_, fun i j di dj a hi => (not_own pl hi).elim⟩, hx'⟩
  · obtain rfl : γ = a := Option.some.inj z
    exact ⟨(ok.gm _ z).1, ⟨_, hx'⟩, ⟨_, hx'⟩⟩
  · have h := ok.en i t s hi hs
    have pe := pl i t hi
    cases t with
    | no => trivial
    | dat d => exact h
    | gen g =>
      obtain ⟨a, h1, h2, h3⟩ := h
      have : a = γ := (Option.some.inj h2).symm
      exact ⟨a, h1, h2, e a _ h3 (fun z => ne (by rw [← z]; exact this)) fun ps z => nomatch z⟩
    | own ds => exact pe.elim
    | raw φ => exact pe.elim
theorem ok_setN {G : Hp} {s : Option V} (ok : Ok ⟨some γ, G, H⟩ G H σ ρ) (p : Plain ρ) (hi : ρ[i]? = some .no) : Ok ⟨some γ, G, H⟩ G H (σ.set i s) ρ := by
  refine ⟨ok.g0, ok.gh, ok.nw, ok.kp, ok.gm, by rw [List.length_set]; exact ok.len, fun k e s' hk hs => ?_, fun a b da db c ha => (not_own p ha).elim⟩
  by_cases z : i = k
  · subst z
    rw [hi] at hk
    cases hk
    trivial
  · rw [List.getElem?_set_ne z] at hs
    exact ok.en k e s' hk hs
theorem tabs_exN {T : List (Addr × Str)} {H H' : Hp} {p : Addr} {xs : List V} (t : Tabs T H) (hp : H p = some (.lst xs)) (e : ∀ a o, H a = some o → a ≠ p → H' a = some o) : Tabs T H' := tabs_but t hp e
/-- calls = [lambda: ..] -/
theorem calls_new (h : Rw T γ σ ρ H) (hi : ρ[i]? = some .no) (hil : i < ρ.length)
    (k : ∀ f p H', RwL X T γ (σ.set i (some (.ref p))) ρ H H' p [f] → (σ.set i (some (.ref p)))[i]? = some (some (.ref p)) → LamAt X params body scope f H' → u D (σ.set i (some (.ref p))) H') :
    tSeq (tAsg (tLst (tCons (tLamE X T params body scope) tNil)) (gName i)) u D σ H := by
  obtain ⟨G, ok, nt, ht, pl, xs, hx⟩ := h
  refine ⟨ht, fun f c' pm ctv H1 e1 T1 nf hc => ⟨(show (1 : Nat) ≤ sizeLine by decide), fun p hp => ?_⟩⟩
  have nfp : f ≠ p := fun z => by
    subst z
    rw [upd_same] at hp
    cases hp
  have p1 : H1 p = none := by
    rw [upd_ne (fun z => nfp z.symm)] at hp
    exact hp
  have p0 : ∀ o, H p = some o → ∃ ps, o = .tbl ps := fun o q => by
    cases o with
    | tbl ps => exact ⟨ps, rfl⟩
    | _ =>
      have := e1 p _ q fun ps z => nomatch z
      rw [p1] at this
      cases this
  have x1 : Ex H1 (upd H1 f (pinO (lamObj X params body scope pm c' ctv) f)) := ex_upd nf
  have x2 : Ex (upd H1 f (pinO (lamObj X params body scope pm c' ctv) f)) (upd (upd H1 f (pinO (lamObj X params body scope pm c' ctv) f)) p (.lst [.ref f])) := ex_upd hp
  have eN : ExtN H (upd (upd H1 f (pinO (lamObj X params body scope pm c' ctv) f)) p (.lst [.ref f])) := e1.trans (ExtN.of fun a o e => x2 a o (x1 a o e))
  have ng : p ≠ γ := fun z => by
    subst z
    have := e1 p _ hx fun ps z => nomatch z
    rw [p1] at this
    cases this
  have gp : G p = none := by
    cases q : G p with
    | none => rfl
    | some o =>
      have z := e1 p o (ok.gh p o q) fun ps z => nt p ps (by rw [q, z])
      rw [p1] at z
      cases z
  obtain ⟨ok', hx'⟩ := ok_but (H' := upd (upd H1 f (pinO (lamObj X params body scope pm c' ctv) f)) p (.lst [.ref f])) ok nt pl hx gp ng fun a o h _ n => eN a o h n
  refine k f p _ ⟨⟨G, ok_setN ok' pl hi, nt, tabs_ex T1 (x1.trans x2), pl, ⟨_, hx'⟩, gp⟩, ng, KeepN.of eN, p0, upd_same⟩ ?_ ⟨c', pm, ctv, x2 _ _ upd_same, x2 _ _ (x1 _ _ hc)⟩
  · rw [List.getElem?_set_self (by rw [ok.len]; exact hil)]
/-- calls.append(lambda: ..) -/
theorem calls_app {Hb : Hp} {p : Addr} {fs : List Addr} {K : PySem.W.Frag} (h : RwL X T γ σ ρ Hb H p fs) (hs : σ[i]? = some (some (.ref p))) (hl : fs.length < 9)
    (k : ∀ f H', RwL X T γ σ ρ Hb H' p (fs ++ [f]) → LamAt X params body scope f H' → (∀ params body scope f', LamAt X params body scope f' H → LamAt X params body scope f' H') → u D σ H') :
    tSeq (tDrop (tBM K "list" rAppend (tVar i) (tCons (tLamE X T params body scope) tNil))) u D σ H := by
  obtain ⟨⟨G, ok, nt, ht, pl, ⟨xs, hx⟩, gp⟩, ng, kp, hb, hat⟩ := h
  refine ⟨.ref p, hs, .inl ⟨rfl, _, Or.inl (Or.inl hat)⟩, ht, fun f c' pm ctv H1 e1 T1 nf hc => ⟨p, fs.map V.ref, _, rfl, rfl, ?_, ?_, ?_⟩⟩
  · have h1 := e1 p _ hat fun ps z => nomatch z
    rw [upd_ne (fun z => by rw [← z, h1] at nf; cases nf)]
    exact h1
  · rw [List.length_map, sizeLine_eq]
    omega
  have x1 : Ex H1 (upd H1 f (pinO (lamObj X params body scope pm c' ctv) f)) := ex_upd nf
  have hat1 : upd H1 f (pinO (lamObj X params body scope pm c' ctv) f) p = some (.lst (fs.map V.ref)) := x1 _ _ (e1 p _ hat fun ps z => nomatch z)
  have eB : ∀ a o, H a = some o → a ≠ p → (∀ ps, o ≠ .tbl ps) → upd (upd H1 f (pinO (lamObj X params body scope pm c' ctv) f)) p (.lst (fs.map V.ref ++ [.ref f])) a = some o := fun a o q n t => by
    rw [upd_ne n]
    exact x1 _ _ (e1 a o q t)
  obtain ⟨ok', hx'⟩ := ok_but ok nt pl hx gp ng eB
  have fp : f ≠ p := fun z => by
    subst z
    rw [upd_same] at hat1
    exact pinO_lst (Option.some.inj hat1)
  have cp : c' ≠ p := fun z => by
    subst z
    rw [x1 _ _ hc] at hat1
    exact codeO_lst (Option.some.inj hat1)
  refine k f _ ⟨⟨G, ok', nt, tabs_exN (p := p) (xs := fs.map V.ref) (tabs_ex T1 x1) hat1 fun a o q n => by rw [upd_ne n]; exact q, pl, ⟨_, hx'⟩, gp⟩, ng, fun a o q n t => ?_, hb, ?_⟩ ⟨c', pm, ctv, ?_, ?_⟩ fun _ _ _ f' hf' => hf'.keep hat eB
  · exact eB a o (kp a o q n t) (fun z => by
      subst z
      obtain ⟨ps, e⟩ := hb o q
      exact t ps e) t
  · rw [upd_same, List.map_append]
    rfl
  · rw [upd_ne fp, upd_same]
  · rw [upd_ne cp]
    exact x1 _ _ hc
end
end DL

/-! The raw state: walks over lists of data. -/
namespace DL
open PySem PySem.Spec PyProof.Rows L2 ErX ClX LamX
open Evl (Ex)
section
variable {X : Cx} {T : List (Addr × Str)} {γ : Addr} {σ : L2.St} {ρ : Rho} {H : Hp} {i n : Nat} {d : PyData} {u : TS} {D : L2.Ends} {K : PySem.W.Frag}
/-- both -/
def joinH (G G' : Hp) : Hp := fun b => match G b with
  | some o => some o
  | none => G' b
theorem joinH_l {G G' : Hp} : Ex G (joinH G G') := fun b o h => by
  unfold joinH
  rw [h]
theorem joinH_or {G G' : Hp} {b : Addr} {o : HO} (h : joinH G G' b = some o) : G b = some o ∨ G' b = some o := by
  unfold joinH at h
  cases q : G b with
  | some u =>
    rw [q] at h
    exact .inl h
  | none =>
    rw [q] at h
    exact .inr h
theorem joinH_r {G G' H : Hp} (h1 : Ex G H) (h2 : Ex G' H) : Ex G' (joinH G G') := fun b o h => by
  unfold joinH
  cases q : G b with
  | some u =>
    have a := h1 b u q
    rw [h2 b o h] at a
    exact a.symm
  | none => exact h
/-- a slot gets a value of a heap that stays -/
theorem rw_set {Gp : Hp} {v : V} (h : Rw T γ σ ρ H) (hg : Ex Gp H) (hn : NoTbl Gp) (hγ : Gp γ = none) (hv : Dd Gp v d) : Rw T γ (σ.set i (some v)) (ρ.set i (.dat d)) H := by
  obtain ⟨G, ok, nt, ht, p, xs, hx⟩ := h
  have xj : Ex (joinH G Gp) H := fun b o h => (joinH_or h).elim (ok.gh b o) (hg b o)
  have pl : Plain (ρ.set i (.dat d)) := fun k e hk => by
    by_cases z : i = k
    · subst z
      have hj := (List.getElem?_eq_some_iff.mp hk).1
      rw [List.length_set] at hj
      rw [List.getElem?_set_self hj] at hk
      cases hk
      trivial
    · rw [List.getElem?_set_ne z] at hk
      exact p k e hk
  refine ⟨joinH G Gp, ⟨Ex.refl _, xj, fun a o h h' => (nomatch (show some o = none from h.symm.trans h')), fun _ _ h _ => h, fun a z => ?_, by rw [List.length_set, List.length_set]; exact ok.len, fun k e s hk hs => ?_, fun a b da db c ha => (not_own pl ha).elim⟩, fun a ps h => (joinH_or h).elim (nt a ps) (hn a ps), ht, pl, xs, hx⟩
  · obtain ⟨h1, h2, h3⟩ := ok.gm a z
    have : a = γ := (Option.some.inj z).symm
    refine ⟨?_, h2, h2⟩
    cases q : joinH G Gp a with
    | none => rfl
    | some o =>
      rcases joinH_or q with y | y
      · rw [h1] at y
        cases y
      · rw [this, hγ] at y
        cases y
  · by_cases z : i = k
    · subst z
      have hj := (List.getElem?_eq_some_iff.mp hk).1
      have hj2 : i < σ.length := by
        have := (List.getElem?_eq_some_iff.mp hs).1
        rwa [List.length_set] at this
      rw [List.length_set] at hj
      rw [List.getElem?_set_self hj] at hk
      rw [List.getElem?_set_self hj2] at hs
      cases hk
      cases hs
      exact ⟨v, rfl, hv.mono (joinH_r ok.gh hg)⟩
    · rw [List.getElem?_set_ne z] at hk hs
      have h := ok.en k e s hk hs
      have pe := p k e hk
      cases e with
      | no => trivial
      | dat d =>
        obtain ⟨v, h1, h2⟩ := h
        exact ⟨v, h1, h2.mono joinH_l⟩
      | gen g => exact h
      | own ds => exact pe.elim
      | raw φ => exact pe.elim
/-- for x in a list of data -/
theorem rw_forL {te : TE} {tb : TS} {N : List PyData → Rho → Prop} (h : Rw T γ σ ρ H) (he : wE te ρ fun d ρ1 => ∃ ds, d = .list ds ∧ Plain ρ1 ∧ (∃ (g : Int × Int × Int) (j : Nat), ρ1[j]? = some (.gen g)) ∧ N ds ρ1)
    (k : ∀ ds ρ1, N ds ρ1 → ∃ I : Nat → Rho → Prop, I 0 ρ1 ∧ (∀ σ' H' ρ', Rw T γ σ' ρ' H' → KeepN γ H H' → I ds.length ρ' → D.nx σ' H') ∧
      ∀ n d ρ' σ' H', ds[n]? = some d → I n ρ' → Rw T γ σ' (ρ'.set i (.dat d)) H' → KeepN γ H H' →
        tb { D with nx := fun σ2 H2 => ∃ ρ2, Rw T γ σ2 ρ2 H2 ∧ KeepN γ H' H2 ∧ I (n + 1) ρ2, ct := fun σ2 H2 => ∃ ρ2, Rw T γ σ2 ρ2 H2 ∧ KeepN γ H' H2 ∧ I (n + 1) ρ2, bk := D.nx } σ' H') :
    tFor (iAny K te) (gName i) tb D σ H := by
  obtain ⟨G, ok, nt, ht, p, xs0, hx⟩ := h
  refine .inl (he ⟨some γ, G, H⟩ G H σ ok _ fun v G1 H1 ρ1 d S ⟨ds, e, pl, ⟨g, j, hj⟩, nn⟩ d1 => ?_)
  subst e
  obtain ⟨a, xs, rfl, ga, da⟩ := d1.lst'
  have kp : KeepN γ H H1 := fun a o h n _ => S.ok.kp a o h (fun z => n (Option.some.inj z).symm)
  have g1 : G1 γ = none := (S.ok.gm γ rfl).1
  have ne : a ≠ γ := fun z => by
    rw [z, g1] at ga
    cases ga
  have ha1 : H1 a = some (.lst xs) := S.ok.gh _ _ ga
  have R1 : Rw T γ σ ρ1 H1 := by
    have hj2 : j < σ.length := by
      rw [S.ok.len]
      exact (List.getElem?_eq_some_iff.mp hj).1
    obtain ⟨b, _, h2, h3⟩ := S.ok.en j _ _ hj (List.getElem?_eq_getElem hj2)
    obtain rfl : γ = b := Option.some.inj h2
    exact rw_rebase (σ := σ) (ρ := ρ) S.ok ht hx pl ⟨_, h3⟩
  have dap := ddall_prune da
  have gpn : prune G1 γ = none := by
    cases q : prune G1 γ with
    | none => rfl
    | some o =>
      rw [prune_at q] at g1
      cases g1
  obtain ⟨I, i0, fin, turn⟩ := k ds ρ1 nn
  refine ⟨a, rfl, ⟨xs, .inl (.inl ha1)⟩, fun n m σ' H' => m = ds.length - n ∧ n ≤ ds.length ∧ ∃ ρ', Rw T γ σ' ρ' H' ∧ KeepN γ H1 H' ∧ I n ρ', ⟨_, rfl, Nat.zero_le _, ρ1, R1, KeepN.refl _ _, i0⟩, fun n m σ' H' ⟨em, hn, ρ', R', k', inv⟩ => ?_⟩
  have at_ : SqL K H' a xs := .inl (.inl (k' a _ ha1 ne (fun _ z => nomatch z)))
  by_cases z : n = ds.length
  · subst z
    exact .inl ⟨⟨xs, at_, by rw [da.length]; exact Nat.le_refl _⟩, fin σ' H' ρ' R' (kp.trans k') inv⟩
  · have hlt : n < ds.length := by omega
    have hd : ds[n]? = some ds[n] := List.getElem?_eq_getElem hlt
    obtain ⟨v, h1, h2⟩ := dap.getd hd
    have ex : Ex (prune G1) H' := fun b o h => k' b o (S.ok.gh b o (prune_at h)) (fun z => by rw [z, gpn] at h; cases h) fun ps z => prune_no G1 b ps (by rw [h, z])
    refine .inr ⟨⟨xs, v, at_, h1⟩, fun σ2 H2 => ∃ ρ2, Rw T γ σ2 ρ2 H2 ∧ KeepN γ H' H2 ∧ I (n + 1) ρ2, fun σ2 H2 ⟨ρ2, r2, k2, i2⟩ => ⟨ds.length - (n + 1), by omega, rfl, by omega, ρ2, r2, k'.trans k2, i2⟩, fun x H2 ⟨e, f⟩ => ?_⟩
    have := f xs at_
    rw [h1] at this
    cases this
    subst e
    exact turn n _ ρ' _ _ hd inv (rw_set R' ex (prune_no _) gpn h2) (kp.trans k')
/-- the same, with what follows -/
theorem rw_forS {te : TE} {tb : TS} {N : List PyData → Rho → Prop} (h : Rw T γ σ ρ H) (he : wE te ρ fun d ρ1 => ∃ ds, d = .list ds ∧ Plain ρ1 ∧ (∃ (g : Int × Int × Int) (j : Nat), ρ1[j]? = some (.gen g)) ∧ N ds ρ1)
    (k : ∀ ds ρ1, N ds ρ1 → ∃ I : Nat → Rho → Prop, I 0 ρ1 ∧ (∀ σ' H' ρ', Rw T γ σ' ρ' H' → KeepN γ H H' → I ds.length ρ' → u D σ' H') ∧
      ∀ n d ρ' σ' H', ds[n]? = some d → I n ρ' → Rw T γ σ' (ρ'.set i (.dat d)) H' → KeepN γ H H' →
        tb { D with nx := fun σ2 H2 => ∃ ρ2, Rw T γ σ2 ρ2 H2 ∧ KeepN γ H' H2 ∧ I (n + 1) ρ2, ct := fun σ2 H2 => ∃ ρ2, Rw T γ σ2 ρ2 H2 ∧ KeepN γ H' H2 ∧ I (n + 1) ρ2, bk := u D } σ' H') :
    tSeq (tFor (iAny K te) (gName i) tb) u D σ H := rw_forL (D := { D with nx := u D }) h he k
end
end DL

/-! The raw state: start, steps; what a lambda raises. -/
namespace DL
open PySem PySem.Spec PyProof.Rows L2 ErX ClX LamX
open Evl (Ex)
section
variable {X : Cx} {T : List (Addr × Str)} {γ C : Addr} {σ : L2.St} {ρ : Rho} {H : Hp} {i j n : Nat} {d di dj : PyData} {u : TS} {D : L2.Ends} {cs : Addr → Option Obj}
theorem rw_start {G : Hp} {N : List Str} {us : List V} {ds : List PyData} {k : Nat} {g : Int × Int × Int} (hN : N.length = ds.length + 1 + k) (gg : Ex G H) (gn : G γ = none) (hg : H γ = some (.lst (genV g))) (h : DdAll G us ds) (nt : NoTbl G) (ht : Tabs T H) : Rw T γ (L2.start N (.ref γ :: us)) (.gen g :: rho0 ds k) H := by
  have e : L2.start N (.ref γ :: us) = some (.ref γ) :: (us.map some ++ List.replicate k none) := by
    unfold L2.start
    rw [hN, List.length_cons, h.length, Nat.add_sub_cancel_left]
    rfl
  rw [e]
  refine ⟨G, ⟨Ex.refl G, gg, fun a o h h' => (nomatch (show some o = none from h.symm.trans h')), fun a o q _ => q, fun a q => ?_, ?_, fun i e s e1 e2 => ?_, fun i j di dj a q1 _ _ _ => ?_⟩, nt, ht, fun i e hi => ?_, _, hg⟩
  · cases q
    exact ⟨gn, ⟨_, hg⟩, _, hg⟩
  · unfold rho0
    rw [List.length_cons, List.length_cons, List.length_append, List.length_append, List.length_map, List.length_map, List.length_replicate, List.length_replicate, h.length]
  · cases i with
    | zero =>
      cases e1
      cases e2
      exact ⟨γ, rfl, rfl, hg⟩
    | succ i => exact rho0_get h i e s e1 e2
  · cases i with
    | zero => cases q1
    | succ i => exact absurd rfl (rho0_own q1 di)
  · have hm := List.mem_of_getElem? hi
    unfold rho0 at hm
    rcases List.mem_cons.mp hm with q | q
    · subst q
      trivial
    · rcases List.mem_append.mp q with q | q
      · obtain ⟨x, _, rfl⟩ := List.mem_map.mp q
        trivial
      · rw [(List.mem_replicate.mp q).2]
        trivial
theorem rw_seq {N : Rho → Prop} {ts : TS} (h : Rw T γ σ ρ H) (w : wS ts ρ ⟨fun ρ' => Plain ρ' ∧ (∃ g : Int × Int × Int, ∃ i : Nat, ρ'[i]? = some (.gen g)) ∧ N ρ', fun _ _ => False, fun _ => False, fun _ => False⟩)
    (k : ∀ σ' H' ρ', Rw T γ σ' ρ' H' → KeepN γ H H' → N ρ' → u D σ' H') : tSeq ts u D σ H := rw_step (D := { D with nx := u D }) h w k fun _ _ _ _ _ z => z.elim
def plB : Ent → Bool
  | .no => true
  | .dat _ => true
  | .gen _ => true
  | _ => false
theorem plain_by {ρ : Rho} (h : ρ.all plB = true) : Plain ρ := fun i e hi => by
  have := (List.all_eq_true.mp h) e (List.mem_of_getElem? hi)
  cases e <;> simp_all [plB, plainE]
theorem hRs2 {Pre : List PyData → Prop} {Post : List PyData → PyData → Prop} {Bad : BadT} (hi : ρ[i]? = some (.dat di)) (hj : ρ[j]? = some (.dat dj)) (pre : Pre [di, dj]) (hpost : ∀ d', ¬ Post [di, dj] d') (hbad : ∀ C' x, Bad [di, dj] C' x → C' = C ∧ x = d) :
    ∀ (cs : Addr → Option Obj) (G Hc : Hp), Ok ⟨some γ, G, H⟩ G H σ ρ → Ex G Hc → (∀ b o, cs b = some o → Hc b = none) → Rs C d G (over cs Hc) (fun E H' Q => tCall (spR 2 Pre Post Bad) [] (liftE cs E) (tCons (tVar i) (tCons (tVar j) tNil)) σ (mask cs H') fun v H2 => Q v (over cs H2)) := fun cs G Hc ok ge n => by
  obtain ⟨s, hs, v, ev, hv⟩ := ok.slot hi
  obtain ⟨s2, hs2, v2, ev2, hv2⟩ := ok.slot hj
  exact rs_of (vs := [v, v2]) (fun Hm k hk => ⟨v, by rw [hs, ev], v2, by rw [hs2, ev2], hk⟩) n ge (.cons hv (.cons hv2 .nil)) rfl pre hpost hbad
theorem hRs1 {Pre : List PyData → Prop} {Post : List PyData → PyData → Prop} {Bad : BadT} (hi : ρ[i]? = some (.dat di)) (pre : Pre [di]) (hpost : ∀ d', ¬ Post [di] d') (hbad : ∀ C' x, Bad [di] C' x → C' = C ∧ x = d) :
    ∀ (cs : Addr → Option Obj) (G Hc : Hp), Ok ⟨some γ, G, H⟩ G H σ ρ → Ex G Hc → (∀ b o, cs b = some o → Hc b = none) → Rs C d G (over cs Hc) (fun E H' Q => tCall (spR 1 Pre Post Bad) [] (liftE cs E) (tCons (tVar i) tNil) σ (mask cs H') fun v H2 => Q v (over cs H2)) := fun cs G Hc ok ge n => by
  obtain ⟨s, hs, v, ev, hv⟩ := ok.slot hi
  exact rs_of (vs := [v]) (fun Hm k hk => ⟨v, by rw [hs, ev], hk⟩) n ge (.cons hv .nil) rfl pre hpost hbad
mutual
/-- data needs no pinned cell -/
theorem dd_mask {G : Hp} (hn : ∀ b o u, cs b = some o → G b = some u → (∀ xs, u ≠ .lst xs) ∧ (∀ xs, u ≠ .tup xs) ∧ u ≠ .dK []) : ∀ {v : V} {d : PyData}, Dd G v d → Dd (mask cs G) v d
  | _, _, .non => .non
  | _, _, .bl b => .bl b
  | _, _, .int i => .int i
  | _, _, .str x => .str x
  | _, _, .lst (a := a) h t => .lst (by
      cases q : cs a with
      | none => rw [mask_none q]; exact h
      | some o => exact absurd rfl ((hn a o _ q h).1 _)) (ddall_mask hn t)
  | _, _, .tup (a := a) h t => .tup (by
      cases q : cs a with
      | none => rw [mask_none q]; exact h
      | some o => exact absurd rfl ((hn a o _ q h).2.1 _)) (ddall_mask hn t)
  | _, _, .dct (a := a) h => .dct (by
      cases q : cs a with
      | none => rw [mask_none q]; exact h
      | some o => exact absurd rfl (hn a o _ q h).2.2)
theorem ddall_mask {G : Hp} (hn : ∀ b o u, cs b = some o → G b = some u → (∀ xs, u ≠ .lst xs) ∧ (∀ xs, u ≠ .tup xs) ∧ u ≠ .dK []) : ∀ {vs : List V} {ds : List PyData}, DdAll G vs ds → DdAll (mask cs G) vs ds
  | _, _, .nil => .nil
  | _, _, .cons h t => .cons (dd_mask hn h) (ddall_mask hn t)
end
end
section
variable {X : Cx} {k j : Nat} {x : Str} {p pos : Pos} {ps : List Str} {sp : Sp} {e : Expr} {es : List Expr} {t : TA}
theorem pe_defC (D : Df X.prog X.w X.K X.mg X.base CX0 k x ps [] sp) (hr : Room j X.A) (hkj : k ≤ j) (hfn : ∀ y, X.fn y = true) (ha : PA X (e :: es) t) (hg : Gl X x := by rfl) (hdb : (x == ("__debug__" : Str)) = false := by decide)
    (he : starEach (e :: es) X.env = (false, eval e X.env) :: starEach es X.env := by rfl) (hpl : (backTo pos (starEach es X.env)).any (·.1) = false := by rfl) : PE X (.Call (.Name x p) (e :: es) [] pos) (tCallC X sp [] t) := by
  obtain ⟨f, fd, ds, F, hm, hk, hb, hd⟩ := D
  exact pe_callC F (hr.mono hkj) hg hm hk hb hd hfn ha hdb he hpl
end
section
variable {X : Cx} {T : List (Addr × Str)} {γ : Addr} {σ : L2.St} {ρ : Rho} {H : Hp} {i : Nat} {u : TS} {D : L2.Ends} {pa pb pc : Arguments} {ba bb bc : Expr} {sa sb sc : Scope}
/-- what a lambda's making leaves -/
theorem lam_made {params : Arguments} {body : Expr} {scope : Scope} {Q : VK} (h : Rw T γ σ ρ H) (k : ∀ f H', Rw T γ σ ρ H' → ExtN H H' → LamAt X params body scope f H' → Q (.ref f) H') : tLamE X T params body scope σ H Q := by
  have hw := h
  obtain ⟨G, ok, nt, ht, pl, xs, hx⟩ := h
  refine ⟨ht, fun f c' pm ctv H1 e1 T1 nf hc => ?_⟩
  have x1 : Ex H1 (upd H1 f (pinO (lamObj X params body scope pm c' ctv) f)) := ex_upd nf
  have e2 : ExtN H (upd H1 f (pinO (lamObj X params body scope pm c' ctv) f)) := e1.trans (ExtN.of x1)
  exact k f _ (rw_ext hw e2 (tabs_ex T1 x1)) e2 ⟨c', pm, ctv, upd_same, x1 _ _ hc⟩
theorem LamAt.ext {params : Arguments} {body : Expr} {scope : Scope} {f : Addr} {H' : Hp} (h : LamAt X params body scope f H) (e : ExtN H H') : LamAt X params body scope f H' := by
  obtain ⟨c', pm, ctv, h1, h2⟩ := h
  exact ⟨c', pm, ctv, e _ _ h1 pinO_tbl, e _ _ h2 codeO_ne⟩
/-- calls = [lambda, lambda, lambda] -/
theorem calls3 (h : Rw T γ σ ρ H) (hi : ρ[i]? = some .no) (hil : i < ρ.length)
    (k : ∀ f1 f2 f3 p H', Rw T γ (σ.set i (some (.ref p))) ρ H' → KeepN γ H H' → H' p = some (.lst [.ref f1, .ref f2, .ref f3]) → (σ.set i (some (.ref p)))[i]? = some (some (.ref p)) → LamAt X pa ba sa f1 H' → LamAt X pb bb sb f2 H' → LamAt X pc bc sc f3 H' → u D (σ.set i (some (.ref p))) H') :
    tSeq (tAsg (tLst (tCons (tLamE X T pa ba sa) (tCons (tLamE X T pb bb sb) (tCons (tLamE X T pc bc sc) tNil)))) (gName i)) u D σ H := by
  show tLamE X T pa ba sa σ H fun v1 H1 => tLamE X T pb bb sb σ H1 fun v2 H2 => tLamE X T pc bc sc σ H2 fun v3 H3 => ([v1, v2, v3] : List V).length ≤ sizeLine ∧ ∀ p, H3 p = none → u D (σ.set i (some (.ref p))) (upd H3 p (.lst [v1, v2, v3]))
  refine lam_made h fun f1 H1 R1 e1 l1 => ?_
  refine lam_made R1 fun f2 H2 R2 e2 l2 => ?_
  refine lam_made R2 fun f3 H3 R3 e3 l3 => ?_
  refine ⟨(show (3 : Nat) ≤ sizeLine by decide), fun p hp => ?_⟩
  have x4 : Ex H3 (upd H3 p (.lst [.ref f1, .ref f2, .ref f3])) := ex_upd hp
  have e4 : ExtN H3 (upd H3 p (.lst [.ref f1, .ref f2, .ref f3])) := ExtN.of x4
  refine k f1 f2 f3 p _ (rw_setN (rw_ext R3 e4 (tabs_ex R3.tabs x4)) hi) (KeepN.of (((e1.trans e2).trans e3).trans e4)) upd_same ?_ (((l1.ext e2).ext e3).ext e4) ((l2.ext e3).ext e4) (l3.ext e4)
  rw [List.getElem?_set_self (by rw [h.len]; exact hil)]
end
end DL

/-! The raw state: a value, a loop over references, a refusal's repr compared. -/
namespace DL
open PySem PySem.Spec PyProof.Rows L2 ErX ClX LamX
open Evl (Ex)
section
variable {X : Cx} {T : List (Addr × Str)} {γ C : Addr} {σ : L2.St} {ρ : Rho} {H : Hp} {i j n : Nat} {d di dj : PyData} {u : TS} {D : L2.Ends} {cs : Addr → Option Obj} {K : PySem.W.Frag}
def HasG (ρ : Rho) : Prop := ∃ (g : Int × Int × Int) (j : Nat), ρ[j]? = some (.gen g)
theorem Rw.plain (h : Rw T γ σ ρ H) : Plain ρ := by
  obtain ⟨_, _, _, _, p, _⟩ := h
  exact p
/-- a value of the data layer -/
theorem rw_val {te : TE} {N : PyData → Rho → Prop} {Q : VK} (h : Rw T γ σ ρ H) (w : wE te ρ fun d ρ1 => Plain ρ1 ∧ HasG ρ1 ∧ N d ρ1)
    (k : ∀ v d G' H' ρ', Rw T γ σ ρ' H' → KeepN γ H H' → N d ρ' → Ex G' H' → Dd G' v d → Q v H') : te σ H Q := by
  obtain ⟨G, ok, nt, ht, p, xs, hx⟩ := h
  refine w ⟨some γ, G, H⟩ G H σ ok Q fun v G1 H1 ρ1 d S ⟨pl, ⟨g, j, hj⟩, nn⟩ dv => ?_
  have kp : KeepN γ H H1 := fun a o h n _ => S.ok.kp a o h (fun z => n (Option.some.inj z).symm)
  have hj2 : j < σ.length := by
    rw [S.ok.len]
    exact (List.getElem?_eq_some_iff.mp hj).1
  obtain ⟨b, _, h2, h3⟩ := S.ok.en j _ _ hj (List.getElem?_eq_getElem hj2)
  obtain rfl : γ = b := Option.some.inj h2
  exact k v d G1 H1 ρ1 (rw_rebase (σ := σ) (ρ := ρ) S.ok ht hx pl ⟨_, h3⟩) kp nn S.ok.gh dv
/-- for x in a list of references -/
theorem rw_forR {te : TE} {tb : TS} {N : List V → Hp → Prop} (h : Rw T γ σ ρ H) (hi : ρ[i]? = some .no)
    (he : ∀ Q : VK, (∀ a xs H1, Rw T γ σ ρ H1 → KeepN γ H H1 → H1 a = some (.lst xs) → a ≠ γ → N xs H1 → Q (.ref a) H1) → te σ H Q)
    (fin : ∀ σ' H', Rw T γ σ' ρ H' → KeepN γ H H' → D.nx σ' H')
    (turn : ∀ (xs : List V) (H1 : Hp) (n : Nat) (v : V) (σ' : L2.St) (H' : Hp), N xs H1 → KeepN γ H H1 → KeepN γ H1 H' → Rw T γ σ ρ H1 → xs[n]? = some v → Rw T γ σ' ρ H' → σ'[i]? = some (some v) →
        tb { D with nx := fun σ2 H2 => Rw T γ σ2 ρ H2 ∧ KeepN γ H' H2, ct := fun σ2 H2 => Rw T γ σ2 ρ H2 ∧ KeepN γ H' H2, bk := D.nx } σ' H') :
    tFor (iAny K te) (gName i) tb D σ H := by
  refine .inl (he _ fun a xs H1 R1 k1 ha ne nn => ?_)
  refine ⟨a, rfl, ⟨xs, .inl (.inl ha)⟩, fun n m σ' H' => m = xs.length - n ∧ n ≤ xs.length ∧ Rw T γ σ' ρ H' ∧ KeepN γ H1 H', ⟨_, rfl, Nat.zero_le _, R1, KeepN.refl _ _⟩, fun n m σ' H' ⟨em, hn, R', k'⟩ => ?_⟩
  have at_ : SqL K H' a xs := .inl (.inl (k' a _ ha ne (fun _ z => nomatch z)))
  by_cases z : n = xs.length
  · subst z
    exact .inl ⟨⟨xs, at_, Nat.le_refl _⟩, fin σ' H' R' (k1.trans k')⟩
  · have hlt : n < xs.length := by omega
    have h1 : xs[n]? = some xs[n] := List.getElem?_eq_getElem hlt
    refine .inr ⟨⟨xs, _, at_, h1⟩, fun σ2 H2 => Rw T γ σ2 ρ H2 ∧ KeepN γ H' H2, fun σ2 H2 ⟨r2, k2⟩ => ⟨xs.length - (n + 1), by omega, rfl, by omega, r2, k'.trans k2⟩, fun x H2 ⟨e, f⟩ => ?_⟩
    have := f xs at_
    rw [h1] at this
    cases this
    subst e
    have hil : i < ρ.length := (List.getElem?_eq_some_iff.mp hi).1
    exact turn xs H1 n _ _ _ nn k1 k' R1 h1 (rw_setN R' hi) (by rw [List.getElem?_set_self (by rw [R'.len]; exact hil)])
/-- if repr(x) != repr(y): both stand for the same data, so nothing is told -/
theorem shown_if {te1 te2 : TE} {ts : TS} {b : Bool} (nz : Nz b d) (h1 : ∀ Q : VK, (∀ x G' H', Rw T γ σ ρ H' → KeepN γ H H' → Ex G' H' → Dd G' x d → Q x H') → te1 σ H Q)
    (hg : HasG ρ) (w2 : wE te2 ρ fun d' ρ1 => d' = .str d.shown ∧ ρ1 = ρ) (q : ∀ H', Rw T γ σ ρ H' → KeepN γ H H' → D.nx σ H') :
    tIfS (tTest (tOp L2.rNe (tCB rReprE (tCons te1 tNil)) te2)) ts tNext D σ H := by
  refine h1 _ fun x G' H' R' k' ex dv => ?_
  have f := okD_f nz.ok
  refine ⟨G', x, d, rfl, ex, dv, f.show_, nz.dep, ?_, ?_⟩
  · have := PyData.shown_le 45 (by decide) d f.short
    have hw := nz.wt
    rw [sizeLine_eq]
    omega
  refine rw_val (N := fun d' ρ1 => d' = .str d.shown ∧ ρ1 = ρ) R' (wE.imp w2 fun d' ρ1 ⟨e1, e2⟩ => ⟨by rw [e2]; exact R'.plain, by rw [e2]; exact hg, e1, e2⟩) fun v d' G2 H2 ρ2 R2 k2 ⟨e1, e2⟩ ex2 dv2 => ?_
  subst e1
  subst e2
  rw [dv2.str']
  refine ⟨rfl, false, ?_, q H2 R2 (k'.trans k2)⟩
  rw [decide_eq_true rfl]
  rfl
/-- f(x, None) in a lambda: what it raises -/
theorem hRsN {Pre : List PyData → Prop} {Post : List PyData → PyData → Prop} {Bad : BadT} (hi : ρ[i]? = some (.dat di)) (pre : Pre [di, .none]) (hpost : ∀ d', ¬ Post [di, .none] d') (hbad : ∀ C' x, Bad [di, .none] C' x → C' = C ∧ x = d) :
    ∀ (cs : Addr → Option Obj) (G Hc : Hp), Ok ⟨some γ, G, H⟩ G H σ ρ → Ex G Hc → (∀ b o, cs b = some o → Hc b = none) → Rs C d G (over cs Hc) (fun E H' Q => tCall (spR 2 Pre Post Bad) [] (liftE cs E) (tCons (tVar i) (tCons (tC .non) tNil)) σ (mask cs H') fun v H2 => Q v (over cs H2)) := fun cs G Hc ok ge n => by
  obtain ⟨s, hs, v, ev, hv⟩ := ok.slot hi
  exact rs_of (vs := [v, .non]) (fun Hm k hk => ⟨v, by rw [hs, ev], hk⟩) n ge (.cons hv (.cons .non .nil)) rfl pre hpost hbad
/-- f(y=.., x=..) in a lambda: what it raises -/
theorem hRsK {Pre : List PyData → Prop} {Post : List PyData → PyData → Prop} {Bad : BadT} (hi : ρ[i]? = some (.dat di)) (hj : ρ[j]? = some (.dat dj)) (pre : Pre [dj, di]) (hpost : ∀ d', ¬ Post [dj, di] d') (hbad : ∀ C' x, Bad [dj, di] C' x → C' = C ∧ x = d) :
    ∀ (cs : Addr → Option Obj) (G Hc : Hp), Ok ⟨some γ, G, H⟩ G H σ ρ → Ex G Hc → (∀ b o, cs b = some o → Hc b = none) → Rs C d G (over cs Hc) (fun E H' Q => L2.tCallN 0 2 (spR 2 Pre Post Bad) (fun _ zs => zs.reverse) (liftE cs E) tNil (tCons (tVar i) (tCons (tVar j) tNil)) σ (mask cs H') fun v H2 => Q v (over cs H2)) := fun cs G Hc ok ge n => by
  obtain ⟨s, hs, v, ev, hv⟩ := ok.slot hi
  obtain ⟨s2, hs2, v2, ev2, hv2⟩ := ok.slot hj
  intro H' E Q ex hE
  have h := rs_of (cs := cs) (Pre := Pre) (Post := Post) (Bad := Bad) (σ := σ) (ta := fun _ Hm k => k [v2, v] Hm) (vs := [v2, v]) (fun _ _ h => h) n ge (.cons hv2 (.cons hv .nil)) rfl pre hpost hbad H' E Q ex hE
  exact ⟨v, by rw [hs, ev], v2, by rw [hs2, ev2], rfl, rfl, h⟩
/-- a def that tells data, called by keywords -/
theorem w_defKD {R : PyData → Rho → Prop} {m : Nat} {tk : TA} {Pre : List PyData → Prop} {Post : List PyData → PyData → Prop} {E : XK} (h : wA tk ρ fun ds ρ1 => ds.length = n ∧ m = n ∧ Pre ds.reverse ∧ ∀ d, Post ds.reverse d → R d ρ1) :
    wE (L2.tCallN 0 m (spD n Pre Post) (fun _ zs => zs.reverse) E tNil tk) ρ R := fun B G H σ K Q q => h B G H σ K _ fun vs G1 H1 ρ1 ds S1 ⟨l, em, p, r⟩ d1 =>
  ⟨rfl, by rw [d1.length, l, em], G1, ds.reverse, S1.ok.gh, d1.reverse, by rw [List.length_reverse, l], p, fun v G2 H2 d a1 a2 a3 a4 hp hd => q v G2 H2 ρ1 d (S1.trans (Stp.step S1.ok a1 a2 a3 a4)) (r d hp) hd⟩
theorem g_at {x : V} {σ0 : L2.St} {H0 : Hp} {D : L2.Ends} {u : TS} {i : Nat} (h : u D (σ0.set i (some x)) H0) : gName i x σ0 H0 ({ D with nx := u D } : L2.Ends).nx := h
theorem Nz.bool {b k : Bool} : Nz b (.bool k) := ⟨by simp [okD], by simp [PyData.depth], by simp [PyData.weight]⟩
theorem str_okD {b : Bool} {z : Str} (h : ∀ c ∈ z.cps.toList, c < 0x110000) : okD b (.str z) = true := (Sm.str (b := b) h (Nat.le_refl _)).ok
/-- repr of a text that may be long -/
theorem c_reprS {R : PyData → Prop} {z : Str} (h : ∀ c ∈ z.cps.toList, c < 0x110000) (hl : z.length ≤ 1600000) (r : R (.str (PyData.str z).shown)) : CallW rReprE [.str z] R := CallW.flat (fun _ => .str _) r fun B G H σ ρ K0 vs dv Q q => by
  obtain ⟨v, rfl, hv⟩ := dv.one
  have f := okD_f (b := true) (str_okD h)
  refine ⟨G, v, _, rfl, K0.gh, hv, f.show_, by simp [PyData.depth], ?_, q⟩
  have := PyData.shown_le 8 (by decide) (.str z) (by
    have e := (str_okD (b := true) h)
    simp only [okD, Bool.and_eq_true] at e
    simpa [PyData.leavesShort] using e.2)
  have e : (PyData.str z).weight = z.length := by simp only [PyData.weight]; rfl
  rw [e] at this
  rw [sizeLine_eq]
  omega
/-- a row of a short text and small data -/
theorem nz_pair {b : Bool} {a : Str} {d : PyData} (ha : Cl b 0 (.str a)) (hd : Cl b 4 d) : Nz b (.list [.str a, d]) := by
  refine ⟨?_, ?_, ?_⟩
  · simp only [okD, okDs, Bool.and_true]
    rw [Bool.and_eq_true]
    exact ⟨by simpa [okD] using ha.ok, hd.ok⟩
  · have h1 := hd.dep
    simp only [PyData.depth, PyData.depthAll]
    omega
  · have h1 := ha.wt
    have h2 := hd.wt
    have e : Wn 4 = 57928 := by decide
    have e0 : Wn 0 = 13 := rfl
    rw [e] at h2
    rw [e0] at h1
    simp only [PyData.weight, PyData.weightAll] at h1 ⊢
    omega
end
end DL

/-! The end of a law whose repr meets empty dicts. -/
namespace DL
open PySem PySem.Spec PyProof.Rows L2 LamX
section
variable {P : Program} {w : World} {K : PySem.W.Frag} {mg mb : Str → Option Value} {k : Nat} {fa a c tab : Addr} {x y : Str} {sp : Sp} {s : Shared} {vs : List Value} {ns : List Int}
variable (A : At0 P w K mg mb s c tab a vs ns)
include A
/-- the law's call -/
theorem At0.callS (hsy : ∃ m, s.heap.Ns sysModules m) (hr : Room k callerA) (hfa : mg y = some (.ref fa)) (F : ∀ base : Heap, K.In base → base.Ns mainGlobals mg → TabB base mg c tab → Sy base → DfG P w K mg base k y [x] sp)
    (hsp : ∀ H : Hp, H tab = some (.tbl #[]) → SqL K H a (ns.map V.int) → sp [.ref a] H (fun v _ => v = .bl true) fun _ _ _ => False) :
    codeAny (model P w) callerA (.call (.ref fa) ⟨[.ref a], []⟩) (fun r s' => r = .ok (.ret (.bool true)) ∧ OldK s.heap s'.heap ∧ s'.os = s.os ∧ AllBare s'.gens) s := by
  obtain ⟨f, fd, F, hm, _, hb⟩ := F _ A.kin (A.nsk A.glob) A.tabB (by
    obtain ⟨m, h⟩ := hsy
    obtain ⟨o, _, _, e, _⟩ := A.nsk h
    exact ⟨o, e⟩)
  obtain rfl : fa = f := by
    have := Option.some.inj (hfa.symm.trans hm)
    injection this
  refine codeAny_mono (F.run callerA [] s _ ⟨[.ref a], []⟩ [.ref a] [.ref a] _ _ rfl hr A.env0 (hb s [.ref a] A.kx rfl) (.cons rfl .nil) (hsp _ heap0_tab A.sq)) fun r s' h => ?_
  match r, h with
  | .ok (.ret u), ⟨v, H', os, bare, un, hok', r', q⟩ =>
    have q : v = .bl true := q
    subst q
    obtain rfl : u = Value.bool true := r'
    have grown : ∃ more : Array Value, s'.heap.get? tab = some { cls := .none, data := .fields more } := by
      obtain ⟨more, z⟩ := un.tbls tab #[] heap0_tab
      exact ⟨_, hok' tab _ z⟩
    have key : ∀ b o, b ≠ tab → s.heap.get? b = some o → s'.heap.get? b = some o := fun b o nb e => by
      cases q : heap0 K a tab (scrO vs) (ns.map V.int) b with
      | none => exact un.keep b o e q (by intro z; exact absurd (show b ∈ ([] : List Addr) from z) (by simp)) (by simp)
      | some u =>
        rcases heap0_some q with ⟨z, _⟩ | ⟨z, _, z2⟩
        · exact absurd z nb
        · subst z2
          have y := (hok' b _ (un.frzs b _ _ q)).1
          rw [z] at e y ⊢
          rw [A.scr] at e
          rw [y]
          exact e
    refine ⟨rfl, ⟨fun b o e => ?_, fun b o e => ?_⟩, os, bare⟩
    · by_cases hb : b = tab
      · subst hb
        obtain ⟨more, hm⟩ := grown
        have : o = tabO := Option.some.inj (e.symm.trans A.tb)
        subst this
        exact .inr (.inl ⟨(A.cd.tab A.tb).isCodeTable, rfl, #[], more, rfl, by rw [Array.empty_append]; exact hm⟩)
      · exact .inl (key b o hb e)
    · by_cases hb : b = tab
      · subst hb
        obtain ⟨more, hm⟩ := grown
        exact ⟨_, hm⟩
      · exact ⟨o, key b o hb e⟩
end
/-- what is known of the law's promise at the head's heap h -/
def LawGS (l : PySem.W.OpenLaw) (w : World) (K : PySem.W.Frag) (k n : Nat) (y x : Str) (mg : Str → Option Value) (h : Heap) : Prop :=
  ∃ (c tab : Addr) (sp : Sp), h.get? tab = some tabO ∧ K.lookup tab = none ∧ PySem.W.CodeHd h c tab ∧
    (∀ (H : Hp) (a : Addr) (ns : List Int), ns.length ≤ n → H tab = some (.tbl #[]) → SqL K H a (ns.map V.int) → sp [.ref a] H (fun v _ => v = .bl true) fun _ _ _ => False) ∧
    ∀ base : Heap, K.In base → base.Ns mainGlobals mg → TabB base mg c tab → Sy base → DfG l.prog w K mg base k y [x] sp
theorem walkGS {l : PySem.W.OpenLaw} {n k : Nat} {q : Program} {loose : List Str} {XP : (Str → Option Value) → Heap → Prop} {YP : World → Heap → Prop} {d : DefRec} {K : Params → PySem.W.Frag} {x : Str} (hi : importsNone q = true) (hn : l.most = some n) (hn2 : n ≤ sizeLine) (hdf : d.params.defaults = []) (hr : Room k callerA)
    (hY : ∀ (w : World) (h : Heap), YP w h → (K w.params).In h)
    (F : ∀ (w : World) (mg : Str → Option Value) (fa : Addr) (h : Heap), YP w h → (K w.params).In h → h.Ns mainGlobals mg → mg d.name = some (.ref fa) → OwnTabs q (K w.params) mg h → LawGS l w (K w.params) k n d.name x mg h) :
    PySem.W.WalkO q loose XP YP l.row.toRowW d [] (fun f vs => PySem.call f vs) := by
  refine Att.attach_callB hn hdf fun w s₀ s mg mb fa o pm cd doc a vs ns G Y ho hd hcd hmg hobj hints hlen hbits hg => ?_
  have KX := hY w _ Y
  have own : OwnTabs q (K w.params) mg s.heap := fun y f hy hf c t o1 fd1 e dd us sl k1 k2 k3 k4 k5 => by
    obtain ⟨dL, hm, he⟩ := List.any_eq_true.mp hy
    obtain ⟨a', o', fd', c', P', h1, h2, h3, h4, h5, ⟨oc, vc, e1, _, e3, e4⟩, hP⟩ := G.T.tab dL hm
    rw [beq_iff_eq.mp he, hf] at h1
    cases h1
    cases h2.symm.trans (KX _ _ k1)
    cases h3.symm.trans k2
    cases h4.symm.trans k3
    cases e1.symm.trans (KX _ _ k4)
    cases e3
    cases e4.symm.trans k5
    exact hP
  obtain ⟨c, tab, sp, hT, nT, C, hsp, hF⟩ := F w mg fa _ Y KX G.T.g hmg own
  exact At0.callS ⟨KX, G.T.g, G.T.b, G.T.builtins, G.T.nolimit, hg, hT, nT, C, G.T.bmain, hobj, hints, Nat.le_trans hlen hn2⟩ (by
    obtain ⟨m, h, _⟩ := (G.T.seer hi).mods
    exact ⟨m, h⟩) hr hmg hF fun H hH hS => hsp H a ns hlen hH hS
end DL


namespace K81
open PySem PySem.Spec PyProof.Rows L2 DL ErX
open Evl (Ex)
local macro_rules | `(tactic| walk_at "sz") => `(tactic| first | assumption | (rw [sizeLine_eq]; simp only [List.length_cons, List.length_nil, List.length_append, List.length_map, List.length_replicate, List.length_range]; omega) | (rw [sizeLine_eq]; simp; done) | (rw [sizeLine_eq]; simp; omega) | omega)
local macro_rules | `(tactic| walk_at "sh") => `(tactic| first | assumption | exact shaped_int _ | rfl | (exact ty_shaped (by assumption)) | (decide +kernel))
local macro_rules | `(tactic| walk_at "w") => `(tactic| first
  | ((with_reducible refine' w_var ?hv ?_); (case hv => rfl))
  | (with_reducible refine s_seq ?_)
  | (with_reducible refine s_set ?_)
  | (with_reducible refine s_ret ?_)
  | (with_reducible refine s_if ?_)
  | (with_reducible refine s_next ?_)
  | (with_reducible refine x_seq ?_)
  | (with_reducible refine x_if ?_)
  | ((with_reducible refine' w_isi ?_ ?_); decide)
  | (with_reducible refine w_callB ?_)
  | (with_reducible refine w_op ?_)
  | (with_reducible refine w_cons ?_)
  | (with_reducible refine w_nil ?_)
  | (with_reducible refine w_int ?_)
  | (with_reducible refine w_str ?_)
  | (with_reducible refine w_bl ?_)
  | (with_reducible refine w_non ?_)
  | (with_reducible refine w_test ?_)
  | (with_reducible refine w_tB ?_)
  | (with_reducible refine w_and ?_)
  | (with_reducible refine w_or ?_)
  | (with_reducible refine w_not ?_)
  | (with_reducible refine w_andV ?_)
  | (with_reducible refine w_orV ?_)
  | (with_reducible refine w_notV ?_)
  | (with_reducible refine w_if ?_)
  | ((with_reducible refine' w_chain ?hh ?hv); (case hv => rfl))
  | (with_reducible refine w_lst ?_)
  | (with_reducible refine w_tup ?_)
  | (with_reducible refine w_dnew ?_)
  | (with_reducible refine o_addI ?_)
  | (with_reducible refine o_subI ?_)
  | (with_reducible refine o_ltI ?_)
  | (with_reducible refine o_leI ?_)
  | (with_reducible refine o_gtI ?_)
  | (with_reducible refine o_geI ?_)
  | (with_reducible refine o_ltS ?_)
  | (with_reducible refine o_leS ?_)
  | (with_reducible refine o_gtS ?_)
  | (with_reducible refine o_geS ?_)
  | (with_reducible refine o_eqS ?_)
  | (with_reducible refine o_neS ?_)
  | (with_reducible refine o_isN ?_)
  | (with_reducible refine o_notN ?_)
  | (with_reducible refine o_isB ?_)
  | (with_reducible refine c_lenL ?_)
  | (with_reducible refine c_lenT ?_)
  | (with_reducible refine c_int ?_)
  | (with_reducible refine c_intB ?_)
  | (with_reducible refine c_ord ?_)
  | (with_reducible refine c_tupL ?_)
  | (with_reducible refine c_listL ?_)
  | (with_reducible refine c_listT ?_)
  | ((with_reducible refine o_eq ?_ ?_ ?_); (walk_at "sh"); (walk_at "sh"))
  | ((with_reducible refine o_ne ?_ ?_ ?_); (walk_at "sh"); (walk_at "sh"))
  | ((with_reducible refine' o_ixL ?hv ?_); (case hv => rfl))
  | ((with_reducible refine' o_ixT ?hv ?_); (case hv => rfl))
  | ((with_reducible refine o_modI ?_ ?_); (walk_at "sz"))
  | ((with_reducible refine o_addL ?_ ?_); (walk_at "sz"))
  | ((with_reducible refine o_addS ?_ ?_); (walk_at "sz"))
  | ((with_reducible refine o_addT ?_ ?_); (walk_at "sz"))
  | ((with_reducible refine c_lenS ?_ ?_); (walk_at "sz"))
  | refine iteT ?_
  | refine iteF ?_
  | refine And.intro (show _ ≤ sizeLine by walk_at "sz") ?_
  | refine ⟨_, rfl, ?_⟩
  | (refine' o_ixT ?hv ?_; (case hv => rfl))
  | (refine' o_ixL ?hv ?_; (case hv => rfl))
  | refine w_call ?_
  | refine w_callR ?_)
local macro_rules | `(tactic| walk_at "ws") => `(tactic| repeat walk_at "w")

def top (i : Nat) : Stmt := PySem.Challenge.pw_saidahead_k81_forms_and_talks.main.body.getD i (.Pass ⟨0, 0, 0, 0⟩)
/-- the built-in names stand for themselves -/
structure Bl (mg : Str → Option Value) : Prop where
  isinstance_ : mg "isinstance" = none
  int_ : mg "int" = none
  bool_ : mg "bool" = none
  str_ : mg "str" = none
  list_ : mg "list" = none
  tuple_ : mg "tuple" = none
  range_ : mg "range" = none
  all_ : mg "all" = none
  any_ : mg "any" = none
  sum_ : mg "sum" = none
  max_ : mg "max" = none
  min_ : mg "min" = none
  sorted_ : mg "sorted" = none
  len_ : mg "len" = none
  zip_ : mg "zip" = none
  repr_ : mg "repr" = none
  ord_ : mg "ord" = none
  super_ : mg "super" = none
  ValueError_ : mg "ValueError" = none
/-- the module's constants -/
structure Cs (mg : Str → Option Value) : Prop where
  SMALL : ∃ u, mg "SMALL" = some u ∧ RelV (.str "abcdefghijklmnopqrstuvwxyz") u
  MOST_ROLES : ∃ u, mg "MOST_ROLES" = some u ∧ RelV (.int 6) u
  MOST_ESCAPES : ∃ u, mg "MOST_ESCAPES" = some u ∧ RelV (.int 12) u
/-- the errors that the program raises -/
structure Er (P : Program) (K : PySem.W.Frag) (mg : Str → Option Value) (CF CX CT : Addr) : Prop where
  InvalidForm : ∃ fI, ErrC P K mg "InvalidForm" CF fI
  InvalidText : ∃ fI, ErrC P K mg "InvalidText" CX fI
  InvalidTalk : ∃ fI, ErrC P K mg "InvalidTalk" CT fI
theorem un65 {k : Nat} {A : Around} (r : Room k A) : A.units + 65 < cLine := by
  have := r.un
  omega
section
variable {P : Program} {w : World} {K : PySem.W.Frag} {mg : Str → Option Value} {base : Heap}
/-! ### signs, texts -/
def okC (c : Nat) : Bool := decide (32 ≤ c) && decide (c ≤ 126) || decide (c = 10)
def sg (c : Nat) : Str := ⟨#[c]⟩
/-- all signs may be written -/
def AllC (z : Str) : Prop := ∀ c ∈ z.cps.toList, okC c = true
def Sh (m : Nat) (z : Str) : Prop := AllC z ∧ 1 ≤ z.length ∧ z.length ≤ m
def IsSg (x : PyData) : Prop := ∃ c, x = .str (sg c) ∧ okC c = true
def IsTx (x : PyData) : Prop := ∃ z, x = .str z ∧ AllC z
def IsSh (m : Nat) (x : PyData) : Prop := ∃ z, x = .str z ∧ Sh m z
theorem sgl_lt (a b : Nat) : decide ([a] < [b]) = decide (a < b) := by
  congr 1
  simp [List.cons_lt_cons_iff]
theorem iteB {b : Bool} {A B : Prop} (h1 : b = true → A) (h2 : b = false → B) : if b = true then A else B := by
  cases b with
  | true => exact h1 rfl
  | false => exact h2 rfl
theorem one_sign {z : Str} (h : z.length = 1) : ∃ c, z = ⟨#[c]⟩ := by
  obtain ⟨cps⟩ := z
  have h : cps.size = 1 := h
  obtain ⟨l⟩ := cps
  match l, h with
  | [c], _ => exact ⟨c, rfl⟩
theorem eqv_str (a b : Str) : PyData.eqv (.str a) (.str b) = decide (a = b) := by
  simp only [PyData.eqv]
  by_cases h : a = b <;> simp [h]
theorem str_inj {a b : Nat} : ((⟨#[a]⟩ : Str) = ⟨#[b]⟩) = (a = b) := by simp
theorem len_sgs (z : Str) : (sgs z).length = z.length := by simp [sgs, Str.length]
theorem not_str {x : PyData} {A : Str → Prop} (h : isT x "str" = false) (b : Bool) (hb : b = false) : b = true ↔ ∃ z, x = .str z ∧ A z := by
  subst hb
  constructor
  · intro q
    cases q
  · rintro ⟨z, rfl, _⟩
    cases h
theorem is_str {x : PyData} (h : isT x "str" = true) : ∃ z, x = .str z := by
  cases x with
  | str z => exact ⟨z, rfl⟩
  | _ => cases h
abbrev s_is_sign : Stmt := top 14
theorem sc_is_sign : FnScope ["value"] ["value"] (defScope s_is_sign) := ⟨rfl, rfl, rfl, by decide +kernel, rfl, by decide +kernel, by decide +kernel⟩
def sp_is_sign  : Sp := spD 1 (fun ds => ∃ x, ds = [x] ∧ Nz true x) (fun ds d => ∃ x b, ds = [x] ∧ d = .bool b ∧ (b = true ↔ IsSg x))
theorem d_is_sign (T : Bl mg) (F : FunAt K mg "is_sign" s_is_sign)   : Df P w K mg base CX0 1 "is_sign" ["value"] [] sp_is_sign := by
  refine df_of F sc_is_sign (spD_len rfl) (fun _ _ _ _ _ _ _ us hl => match us, hl with | [_], _ => rfl) fun f cdv A outer s H E hr => ?_
  refine ⟨_, (pss_one (ps_ret (pe_and (pe_callB call_isi (by rfl) T.isinstance_ (by rfl) (pa_cons (pv 0) (pa_cons (pe_bltn (v := .ty "str") (by rfl) T.str_ (by rfl) rfl) pa_nil))) (pe_and (pe_cmpR (op_eqX hr.units) (pe_callB call_lenX (by rfl) T.len_ (by rfl) (pa_cons (pv 0) pa_nil)) pe_int (nomark _)) (pe_one (pe_or (pe_chain op_leX op_leX pe_str (pv 0) pe_str) (pe_one (pe_cmpR (op_eqX hr.units) (pv 0) pe_str (nomark _))))))))), fun vs Q h => ?_⟩
  refine body_D (n := 1) (k := 0) rfl (fun ds hl ⟨x, e, hx⟩ => ?_) vs H Q E h
  subst e
  have no : ∀ b : Bool, b = false → (∀ c, x = .str (sg c) → okC c = true → False) → ∃ x' b', [x] = [x'] ∧ PyData.bool b = .bool b' ∧ (b' = true ↔ IsSg x') := fun b hb h => ⟨x, b, rfl, rfl, by
    subst hb
    constructor
    · intro q
      cases q
    · rintro ⟨c, e, o⟩
      exact (h c e o).elim⟩
  walk_at "ws"
  refine iteB (fun h0 => ?_) fun h0 => ?_
  · obtain ⟨z, rfl⟩ := is_str h0
    have hz := line5 hx.lenS
    walk_at "ws"
    refine iteB (fun h1 => ?_) fun h1 => ?_
    · rw [eqv_int, decide_eq_true_eq] at h1
      obtain ⟨c, rfl⟩ := one_sign (by omega : z.length = 1)
      have hs : SeqAt.shaped (PyData.str ⟨#[c]⟩) = true := (hx.sg (c := c) (by simp)).shaped
      walk_at "ws"
      have e1 : (!decide ((⟨#[c]⟩ : Str).cps.toList < (" " : Str).cps.toList)) = decide (32 ≤ c) := by
        rw [show (⟨#[c]⟩ : Str).cps.toList = [c] from rfl, show (" " : Str).cps.toList = [32] from rfl, sgl_lt, ← decide_not]
        congr 1
        simp
      have e2 : (!decide (("~" : Str).cps.toList < (⟨#[c]⟩ : Str).cps.toList)) = decide (c ≤ 126) := by
        rw [show (⟨#[c]⟩ : Str).cps.toList = [c] from rfl, show ("~" : Str).cps.toList = [126] from rfl, sgl_lt, ← decide_not]
        congr 1
        simp
      have e3 : decide ((⟨#[c]⟩ : Str) = "\n") = decide (c = 10) := by
        congr 1
        rw [show ("\n" : Str) = ⟨#[10]⟩ from rfl, str_inj]
      have fin : ∀ b, b = okC c → ∃ x b', [PyData.str ⟨#[c]⟩] = [x] ∧ PyData.bool b = .bool b' ∧ (b' = true ↔ IsSg x) := fun b e => ⟨_, b, rfl, rfl, by
        subst e
        constructor
        · intro q
          exact ⟨c, rfl, q⟩
        · rintro ⟨c', e, o⟩
          have : c = c' := by
            injection e with e
            rw [sg, str_inj] at e
            exact e
          rw [this]
          exact o⟩
      rw [e1]
      refine iteB (fun h2 => ?_) fun h2 => ?_
      · refine w_str ?_
        refine o_leS ⟨_, rfl, ?_⟩
        rw [e2]
        refine iteB (fun h3 => ?_) fun h3 => ?_
        · exact fin _ (by rw [okC, h2, h3]; rfl)
        · walk_at "ws"
          rw [eqv_str, e3]
          exact fin _ (by rw [okC, h3, Bool.and_false, Bool.false_or])
      · walk_at "ws"
        rw [eqv_str, e3]
        exact fin _ (by rw [okC, h2, Bool.false_and, Bool.false_or])
    · rw [eqv_int, decide_eq_false_iff_not] at h1
      refine no _ rfl fun c e _ => h1 ?_
      injection e with e
      rw [e]
      rfl
  · exact no _ rfl fun c e _ => by
      rw [e] at h0
      cases h0
abbrev s_is_text : Stmt := top 15
theorem sc_is_text : FnScope ["value", "sign"] ["value"] (defScope s_is_text) := ⟨rfl, rfl, rfl, by decide +kernel, rfl, by decide +kernel, by decide +kernel⟩
def sp_is_text  : Sp := spD 1 (fun ds => ∃ x, ds = [x] ∧ Nz true x) (fun ds d => ∃ x b, ds = [x] ∧ d = .bool b ∧ (b = true ↔ IsTx x))
theorem d_is_text (T : Bl mg) (F : FunAt K mg "is_text" s_is_text)  (d_is_sign : Df P w K mg base CX0 1 "is_sign" ["value"] [] sp_is_sign) : Df P w K mg base CX0 2 "is_text" ["value"] [] sp_is_text := by
  refine df_of F sc_is_text (spD_len rfl) (fun _ _ _ _ _ _ _ us hl => match us, hl with | [_], _ => rfl) fun f cdv A outer s H E hr => ?_
  refine ⟨_, (pss_one (ps_ret (pe_and (pe_callB call_isi (by rfl) T.isinstance_ (by rfl) (pa_cons (pv 0) (pa_cons (pe_bltn (v := .ty "str") (by rfl) T.str_ (by rfl) rfl) pa_nil))) (pe_one (pe_cmpR (op_eqNil hr.units) (pe_lc (own := [("sign", 1)]) (g := (gName 1)) (tt := (tNot (tB (tCall sp_is_sign [] E0 (tCons (tVar 1) tNil))))) (te := (tVar 1)) rfl sc_is_text.nd (pi_any (pv 0)) (blkOk_by (N := ["value", "sign"]) (sc := defScope s_is_text) (by decide +kernel)) (fun _ _ _ _ _ => (pg_name (i := 1) sc_is_text.nd rfl (Or.inl rfl))) (fun _ _ _ _ _ => (pts_one (pt_not (pt_val (pe_def (E := E0) d_is_sign hr (by decide) pass0 (pa_cons (pv 1) pa_nil)))))) (fun _ _ _ _ _ => (pv 1))) (pe_lst pa_nil) (nomark _)))))), fun vs Q h => ?_⟩
  refine body_D (n := 1) (k := 1) rfl (fun ds hl ⟨x, e, hx⟩ => ?_) vs H Q E h
  subst e
  walk_at "ws"
  refine iteB (fun h0 => ?_) fun h0 => ?_
  · obtain ⟨z, rfl⟩ := is_str h0
    have hz := hx.lenS
    refine w_op (w_filD (sgs z) (fun d => match d with
      | .str y => y.cps.toList.any fun c => !okC c
      | _ => false) rfl (line5 (by rw [len_sgs]; exact hz)) (i_anyS (w_var rfl ⟨_, rfl, rfl, rfl⟩)) (fun a ha => ?_) ?_)
    · obtain ⟨c, hc, rfl⟩ := List.mem_map.mp ha
      refine w_not (w_tB (w_call (w_cons (w_var rfl (w_nil ⟨rfl, ⟨_, rfl, (hx.sg hc).t⟩, ?_⟩)))))
      rintro d ⟨y, b, e, rfl, hb⟩
      cases e
      refine ⟨_, rfl, ?_, rfl⟩
      have : b = okC c := by
        cases b with
        | true =>
          obtain ⟨c', e, o⟩ := hb.mp rfl
          injection e with e
          rw [sg, str_inj] at e
          rw [e, o]
        | false =>
          cases q : okC c with
          | false => rfl
          | true => exact absurd (hb.mpr ⟨c, rfl, q⟩) Bool.false_ne_true
      simp [this]
    · refine w_lst (w_nil ⟨by decide, o_eqNil ⟨_, _, rfl, rfl, ?_⟩⟩)
      rw [decide_eq_true_eq, List.filter_eq_nil_iff]
      unfold sgs IsTx AllC
      constructor
      · intro h
        refine ⟨z, rfl, fun c hc => ?_⟩
        have := h (.str ⟨#[c]⟩) (List.mem_map.mpr ⟨c, hc, rfl⟩)
        simpa using this
      · rintro ⟨z', e, h⟩ a ha
        cases e
        obtain ⟨c, hc, rfl⟩ := List.mem_map.mp ha
        simp [h c hc]
  · exact ⟨_, _, rfl, rfl, not_str h0 _ rfl⟩
end
end K81


namespace K81
open PySem PySem.Spec PyProof.Rows L2 DL ErX
open Evl (Ex)
local macro_rules | `(tactic| walk_at "sz") => `(tactic| first | assumption | (rw [sizeLine_eq]; simp only [List.length_cons, List.length_nil, List.length_append, List.length_map, List.length_replicate, List.length_range]; omega) | (rw [sizeLine_eq]; simp; done) | (rw [sizeLine_eq]; simp; omega) | omega)
local macro_rules | `(tactic| walk_at "sh") => `(tactic| first | assumption | exact shaped_int _ | rfl | (exact ty_shaped (by assumption)) | (decide +kernel))
local macro_rules | `(tactic| walk_at "w") => `(tactic| first
  | ((with_reducible refine' w_var ?hv ?_); (case hv => rfl))
  | (with_reducible refine s_seq ?_)
  | (with_reducible refine s_set ?_)
  | (with_reducible refine s_ret ?_)
  | (with_reducible refine s_if ?_)
  | (with_reducible refine s_next ?_)
  | (with_reducible refine x_seq ?_)
  | (with_reducible refine x_if ?_)
  | ((with_reducible refine' w_isi ?_ ?_); decide)
  | (with_reducible refine w_callB ?_)
  | (with_reducible refine w_op ?_)
  | (with_reducible refine w_cons ?_)
  | (with_reducible refine w_nil ?_)
  | (with_reducible refine w_int ?_)
  | (with_reducible refine w_str ?_)
  | (with_reducible refine w_bl ?_)
  | (with_reducible refine w_non ?_)
  | (with_reducible refine w_test ?_)
  | (with_reducible refine w_tB ?_)
  | (with_reducible refine w_and ?_)
  | (with_reducible refine w_or ?_)
  | (with_reducible refine w_not ?_)
  | (with_reducible refine w_andV ?_)
  | (with_reducible refine w_orV ?_)
  | (with_reducible refine w_notV ?_)
  | (with_reducible refine w_if ?_)
  | ((with_reducible refine' w_chain ?hh ?hv); (case hv => rfl))
  | (with_reducible refine w_lst ?_)
  | (with_reducible refine w_tup ?_)
  | (with_reducible refine w_dnew ?_)
  | (with_reducible refine o_addI ?_)
  | (with_reducible refine o_subI ?_)
  | (with_reducible refine o_ltI ?_)
  | (with_reducible refine o_leI ?_)
  | (with_reducible refine o_gtI ?_)
  | (with_reducible refine o_geI ?_)
  | (with_reducible refine o_ltS ?_)
  | (with_reducible refine o_leS ?_)
  | (with_reducible refine o_gtS ?_)
  | (with_reducible refine o_geS ?_)
  | (with_reducible refine o_eqS ?_)
  | (with_reducible refine o_neS ?_)
  | (with_reducible refine o_isN ?_)
  | (with_reducible refine o_notN ?_)
  | (with_reducible refine o_isB ?_)
  | (with_reducible refine c_lenL ?_)
  | (with_reducible refine c_lenT ?_)
  | (with_reducible refine c_int ?_)
  | (with_reducible refine c_intB ?_)
  | (with_reducible refine c_ord ?_)
  | (with_reducible refine c_tupL ?_)
  | (with_reducible refine c_listL ?_)
  | (with_reducible refine c_listT ?_)
  | ((with_reducible refine o_eq ?_ ?_ ?_); (walk_at "sh"); (walk_at "sh"))
  | ((with_reducible refine o_ne ?_ ?_ ?_); (walk_at "sh"); (walk_at "sh"))
  | ((with_reducible refine' o_ixL ?hv ?_); (case hv => rfl))
  | ((with_reducible refine' o_ixT ?hv ?_); (case hv => rfl))
  | ((with_reducible refine o_modI ?_ ?_); (walk_at "sz"))
  | ((with_reducible refine o_addL ?_ ?_); (walk_at "sz"))
  | ((with_reducible refine o_addS ?_ ?_); (walk_at "sz"))
  | ((with_reducible refine o_addT ?_ ?_); (walk_at "sz"))
  | ((with_reducible refine c_lenS ?_ ?_); (walk_at "sz"))
  | refine iteT ?_
  | refine iteF ?_
  | refine And.intro (show _ ≤ sizeLine by walk_at "sz") ?_
  | refine ⟨_, rfl, ?_⟩
  | (refine' o_ixT ?hv ?_; (case hv => rfl))
  | (refine' o_ixL ?hv ?_; (case hv => rfl))
  | refine w_call ?_
  | refine w_callR ?_)
local macro_rules | `(tactic| walk_at "ws") => `(tactic| repeat walk_at "w")

section
variable {P : Program} {w : World} {K : PySem.W.Frag} {mg : Str → Option Value} {base : Heap}
theorem ff {A : Prop} (h : ¬ A) : false = true ↔ A := ⟨fun q => (by cases q), fun q => absurd q h⟩
theorem tt {A : Prop} (h : A) : true = true ↔ A := ⟨fun _ => h, fun _ => rfl⟩
theorem iteN {b : Bool} {A B : Prop} (h1 : b = false → A) (h2 : b = true → B) : if (!b) = true then A else B := by
  cases b with
  | true => exact h2 rfl
  | false => exact h1 rfl
theorem iff_d {b : Bool} {A B : Prop} (h : b = true ↔ A) (hB : B ↔ A) : b = true ↔ B := h.trans hB.symm
abbrev s_is_short : Stmt := top 16
theorem sc_is_short : FnScope ["value", "most"] ["value", "most"] (defScope s_is_short) := ⟨rfl, rfl, rfl, by decide +kernel, rfl, by decide +kernel, by decide +kernel⟩
def sp_is_short  : Sp := spD 2 (fun ds => ∃ (x : PyData) (m : Nat), ds = [x, .int m] ∧ Nz true x) (fun ds d => ∃ (x : PyData) (m : Nat) (b : Bool), ds = [x, .int m] ∧ d = .bool b ∧ (b = true ↔ IsSh m x))
theorem d_is_short (T : Bl mg) (F : FunAt K mg "is_short" s_is_short)  (d_is_text : Df P w K mg base CX0 2 "is_text" ["value"] [] sp_is_text) : Df P w K mg base CX0 3 "is_short" ["value", "most"] [] sp_is_short := by
  refine df_of F sc_is_short (spD_len rfl) (fun _ _ _ _ _ _ _ us hl => match us, hl with | [_, _], _ => rfl) fun f cdv A outer s H E hr => ?_
  refine ⟨_, (pss_one (ps_ret (pe_and (pe_def (E := E0) d_is_text hr (by decide) pass0 (pa_cons (pv 0) pa_nil)) (pe_one (pe_chain op_leX op_leX pe_int (pe_callB call_lenX (by rfl) T.len_ (by rfl) (pa_cons (pv 0) pa_nil)) (pv 1)))))), fun vs Q h => ?_⟩
  refine body_D (n := 2) (k := 0) rfl (fun ds hl ⟨x, m, e, hx⟩ => ?_) vs H Q E h
  subst e
  walk_at "ws"
  refine ⟨rfl, ⟨_, rfl, hx⟩, ?_⟩
  rintro d ⟨x', b, e, rfl, hb⟩
  cases e
  walk_at "ws"
  refine iteB (fun h0 => ?_) fun h0 => ?_
  · subst h0
    obtain ⟨z, rfl, hz⟩ := hb.mp rfl
    have hl := line5 hx.lenS
    walk_at "ws"
    refine iteB (fun h1 => ?_) fun h1 => ?_
    · rw [decide_eq_true_eq] at h1
      walk_at "ws"
      refine ⟨_, m, _, rfl, rfl, ?_⟩
      rw [decide_eq_true_eq]
      constructor
      · intro h2
        exact ⟨z, rfl, hz, by omega, by omega⟩
      · rintro ⟨z', e, _, _, h⟩
        cases e
        omega
    · rw [decide_eq_false_iff_not] at h1
      refine ⟨_, m, _, rfl, rfl, ff ?_⟩
      rintro ⟨z', e, _, h, _⟩
      cases e
      omega
  · subst h0
    refine ⟨_, m, _, rfl, rfl, ff ?_⟩
    rintro ⟨z, e, h, _⟩
    exact Bool.false_ne_true (hb.mpr ⟨z, e, h⟩)
def smC (c : Nat) : Bool := decide (97 ≤ c) && decide (c ≤ 122)
def IsName (z : Str) : Prop := 1 ≤ z.length ∧ z.length ≤ 8 ∧ ∀ c ∈ z.cps.toList, smC c = true
def rD (r : Str × Str × Str) : PyData := .tuple [.str r.1, .str r.2.1, .str r.2.2]
def RoleOk (r : Str × Str × Str) : Prop := IsName r.1 ∧ Sh 12 r.2.1 ∧ Sh 12 r.2.2
def IsRole (x : PyData) : Prop := ∃ r, x = rD r ∧ RoleOk r
theorem isT_tup {x : PyData} (h : isT x "tuple" = true) : ∃ xs, x = .tuple xs := by
  cases x with
  | tuple z => exact ⟨z, rfl⟩
  | _ => cases h
theorem isT_lst {x : PyData} (h : isT x "list" = true) : ∃ xs, x = .list xs := by
  cases x with
  | list z => exact ⟨z, rfl⟩
  | _ => cases h
theorem len3 {xs : List PyData} (h : xs.length = 3) : ∃ a b c, xs = [a, b, c] := by
  match xs, h with
  | [a, b, c], _ => exact ⟨a, b, c, rfl⟩
theorem len2 {xs : List PyData} (h : xs.length = 2) : ∃ a b, xs = [a, b] := by
  match xs, h with
  | [a, b], _ => exact ⟨a, b, rfl⟩
theorem small_mem (c : Nat) : decide (c ∈ ("abcdefghijklmnopqrstuvwxyz" : Str).cps.toList) = smC c := by
  have e : ("abcdefghijklmnopqrstuvwxyz" : Str).cps.toList = (List.range 26).map fun i => 97 + i := by decide +kernel
  rw [e]
  unfold smC
  rw [Bool.eq_iff_iff]
  simp only [decide_eq_true_eq, List.mem_map, List.mem_range, Bool.and_eq_true]
  constructor
  · rintro ⟨i, hi, rfl⟩
    omega
  · intro h
    exact ⟨c - 97, by omega, by omega⟩
abbrev s_is_role : Stmt := top 17
theorem sc_is_role : FnScope ["value", "sign"] ["value"] (defScope s_is_role) := ⟨rfl, rfl, rfl, by decide +kernel, rfl, by decide +kernel, by decide +kernel⟩
def sp_is_role  : Sp := spD 1 (fun ds => ∃ x, ds = [x] ∧ Nz true x) (fun ds d => ∃ x b, ds = [x] ∧ d = .bool b ∧ (b = true ↔ IsRole x))
theorem d_is_role (T : Bl mg) (C : Cs mg) (F : FunAt K mg "is_role" s_is_role)  (d_is_short : Df P w K mg base CX0 3 "is_short" ["value", "most"] [] sp_is_short) : Df P w K mg base CX0 4 "is_role" ["value"] [] sp_is_role := by
  refine df_of F sc_is_role (spD_len rfl) (fun _ _ _ _ _ _ _ us hl => match us, hl with | [_], _ => rfl) fun f cdv A outer s H E hr => ?_
  refine ⟨_, (pss_cons (ps_if (PW.pt (pw_or (pt_not (pt_val (pe_callB call_isi (by rfl) T.isinstance_ (by rfl) (pa_cons (pv 0) (pa_cons (pe_bltn (v := .ty "tuple") (by rfl) T.tuple_ (by rfl) rfl) pa_nil))))) (pw_or (pt_cmpR (op_neX hr.units) (pe_callB call_lenX (by rfl) T.len_ (by rfl) (pa_cons (pv 0) pa_nil)) pe_int (nomark _)) (pw_or1 (pt_not (pt_val (pe_callB call_isi (by rfl) T.isinstance_ (by rfl) (pa_cons (pe_ix ix_seq (pv 0) pe_int (fun _ _ => rfl)) (pa_cons (pe_bltn (v := .ty "str") (by rfl) T.str_ (by rfl) rfl) pa_nil))))))))) (pss_one (ps_ret pe_bl)) pss_nil) (pss_cons (ps_if (PW.pt (pw_or (pt_not (pt_chain op_leX op_leX pe_int (pe_callB call_lenX (by rfl) T.len_ (by rfl) (pa_cons (pe_ix ix_seq (pv 0) pe_int (fun _ _ => rfl)) pa_nil)) pe_int)) (pw_or1 (pt_cmpR (op_neNil hr.units) (pe_lc (own := [("sign", 1)]) (g := (gName 1)) (tt := (tTest (tOp (rInA true) (tVar 1) (tC (.str "abcdefghijklmnopqrstuvwxyz"))))) (te := (tVar 1)) rfl sc_is_role.nd (pi_any (pe_ix ix_seq (pv 0) pe_int (fun _ _ => rfl))) (blkOk_by (N := ["value", "sign"]) (sc := defScope s_is_role) (by decide +kernel)) (fun _ _ _ _ _ => (pg_name (i := 1) sc_is_role.nd rfl (Or.inl rfl))) (fun _ _ _ _ _ => (pts_one (pt_cmpR (op_notInA (un65 hr)) (pv 1) (pe_globC C.SMALL) (by rfl)))) (fun _ _ _ _ _ => (pv 1))) (pe_lst pa_nil) (nomark _))))) (pss_one (ps_ret pe_bl)) pss_nil) (pss_one (ps_ret (pe_and (pe_def (E := E0) d_is_short hr (by decide) pass0 (pa_cons (pe_ix ix_seq (pv 0) pe_int (fun _ _ => rfl)) (pa_cons pe_int pa_nil))) (pe_one (pe_def (E := E0) d_is_short hr (by decide) pass0 (pa_cons (pe_ix ix_seq (pv 0) pe_int (fun _ _ => rfl)) (pa_cons pe_int pa_nil))))))))), fun vs Q h => ?_⟩
  refine body_D (n := 1) (k := 1) rfl (fun ds hl ⟨x, e, hx⟩ => ?_) vs H Q E h
  subst e
  have no : ¬ IsRole x → ∃ x' b', [x] = [x'] ∧ PyData.bool false = .bool b' ∧ (b' = true ↔ IsRole x') := fun h => ⟨x, _, rfl, rfl, ff h⟩
  walk_at "ws"
  refine iteN (fun h0 => ?_) fun h0 => ?_
  · exact s_ret (w_bl (no fun ⟨r, e, _⟩ => by rw [e] at h0; cases h0))
  obtain ⟨xs, rfl⟩ := isT_tup h0
  have hl := line5 hx.lenT
  walk_at "ws"
  rw [eqv_int]
  refine iteN (fun h1 => ?_) fun h1 => ?_
  · rw [decide_eq_false_iff_not] at h1
    exact s_ret (w_bl (no fun ⟨r, e, _⟩ => by
      injection e with e
      rw [e] at h1
      exact h1 rfl))
  rw [decide_eq_true_eq] at h1
  obtain ⟨n, a, b, rfl⟩ := len3 (xs := xs) (by omega)
  have hn := hx.itemT (x := n) (by simp)
  have ha := hx.itemT (x := a) (by simp)
  have hb := hx.itemT (x := b) (by simp)
  walk_at "ws"
  refine iteN (fun h2 => ?_) fun h2 => ?_
  · exact s_ret (w_bl (no fun ⟨r, e, _⟩ => by
      injection e with e
      injection e with e
      rw [e] at h2
      cases h2))
  obtain ⟨n, rfl⟩ := is_str h2
  have hnl := line5 hn.lenS
  have noN : ¬ IsName n → ¬ IsRole (.tuple [.str n, a, b]) := fun h ⟨r, e, hr⟩ => by
    injection e with e
    injection e with e
    injection e with e
    rw [e] at h
    exact h hr.1
  walk_at "ws"
  refine iteB (fun h3 => ?_) fun h3 => ?_
  · rw [decide_eq_true_eq] at h3
    walk_at "ws"
    refine iteN (fun h4 => ?_) fun h4 => ?_
    · rw [decide_eq_false_iff_not] at h4
      exact s_ret (w_bl (no (noN fun h => h4 (by have := h.2.1; omega))))
    rw [decide_eq_true_eq] at h4
    refine w_test (w_op (w_filD (sgs n) (anyS fun c => !smC c) rfl (line5 (by rw [len_sgs]; exact hn.lenS)) (i_anyS ?_) (fun z hz => ?_) ?_))
    · walk_at "ws"
      exact ⟨rfl, rfl⟩
    · obtain ⟨c, hc, rfl⟩ := List.mem_map.mp hz
      refine w_test (w_op (w_var rfl (w_str (o_notInSg ⟨_, rfl, ?_, rfl⟩))))
      rw [small_mem, anyS_sg]
    · have hs := (nz_sgs hn (by omega)).sub (List.filter_sublist (p := anyS fun c => !smC c))
      refine w_lst (w_nil ⟨by decide, o_neNilD ⟨_, rfl, ?_⟩⟩)
      refine iteN (fun h5 => ?_) fun h5 => ?_
      · rw [decide_eq_false_iff_not, fil_nil] at h5
        exact s_ret (w_bl (no (noN fun h => h5 fun c hc => by rw [h.2.2 c hc]; rfl)))
      rw [decide_eq_true_eq, fil_nil] at h5
      have hN : IsName n := ⟨by omega, by omega, fun c hc => by simpa using h5 c hc⟩
      walk_at "ws"
      refine ⟨rfl, ⟨_, 12, rfl, ha⟩, ?_⟩
      rintro d ⟨a', m, ba, e, rfl, h6⟩
      obtain ⟨q1, q2⟩ : a = a' ∧ (12 : Int) = (m : Nat) := by simpa using e
      subst q1
      have : m = 12 := by omega
      subst this
      walk_at "ws"
      refine iteB (fun h7 => ?_) fun h7 => ?_
      · subst h7
        obtain ⟨a, rfl, h6a⟩ := h6.mp rfl
        walk_at "ws"
        refine ⟨rfl, ⟨_, 12, rfl, hb⟩, ?_⟩
        rintro d ⟨b', m, bb, e, rfl, h8⟩
        obtain ⟨q1, q2⟩ : b = b' ∧ (12 : Int) = (m : Nat) := by simpa using e
        subst q1
        have : m = 12 := by omega
        subst this
        refine ⟨_, _, rfl, rfl, h8.trans ?_⟩
        constructor
        · rintro ⟨z, rfl, h⟩
          exact ⟨(n, a, z), rfl, hN, h6a, h⟩
        · rintro ⟨r, e, hr⟩
          injection e with e
          simp only [List.cons.injEq, and_true] at e
          exact ⟨r.2.2, e.2.2, hr.2.2⟩
      · subst h7
        refine no fun ⟨r, e, hr⟩ => Bool.false_ne_true (h6.mpr ?_)
        injection e with e
        simp only [List.cons.injEq, and_true] at e
        exact ⟨r.2.1, e.2.1, hr.2.1⟩
  · rw [decide_eq_false_iff_not] at h3
    walk_at "ws"
    exact no (noN fun h => h3 (by have := h.1; omega))
end
end K81


namespace K81
open PySem PySem.Spec PyProof.Rows L2 DL ErX
open Evl (Ex)
local macro_rules | `(tactic| walk_at "sz") => `(tactic| first | assumption | (rw [sizeLine_eq]; simp only [List.length_cons, List.length_nil, List.length_append, List.length_map, List.length_replicate, List.length_range]; omega) | (rw [sizeLine_eq]; simp; done) | (rw [sizeLine_eq]; simp; omega) | omega)
local macro_rules | `(tactic| walk_at "sh") => `(tactic| first | assumption | exact shaped_int _ | rfl | (exact ty_shaped (by assumption)) | (decide +kernel))
local macro_rules | `(tactic| walk_at "w") => `(tactic| first
  | ((with_reducible refine' w_var ?hv ?_); (case hv => rfl))
  | (with_reducible refine s_seq ?_)
  | (with_reducible refine s_set ?_)
  | (with_reducible refine s_ret ?_)
  | (with_reducible refine s_if ?_)
  | (with_reducible refine s_next ?_)
  | (with_reducible refine x_seq ?_)
  | (with_reducible refine x_if ?_)
  | ((with_reducible refine' w_isi ?_ ?_); decide)
  | (with_reducible refine w_callB ?_)
  | (with_reducible refine w_op ?_)
  | (with_reducible refine w_cons ?_)
  | (with_reducible refine w_nil ?_)
  | (with_reducible refine w_int ?_)
  | (with_reducible refine w_str ?_)
  | (with_reducible refine w_bl ?_)
  | (with_reducible refine w_non ?_)
  | (with_reducible refine w_test ?_)
  | (with_reducible refine w_tB ?_)
  | (with_reducible refine w_and ?_)
  | (with_reducible refine w_or ?_)
  | (with_reducible refine w_not ?_)
  | (with_reducible refine w_andV ?_)
  | (with_reducible refine w_orV ?_)
  | (with_reducible refine w_notV ?_)
  | (with_reducible refine w_if ?_)
  | ((with_reducible refine' w_chain ?hh ?hv); (case hv => rfl))
  | (with_reducible refine w_lst ?_)
  | (with_reducible refine w_tup ?_)
  | (with_reducible refine w_dnew ?_)
  | (with_reducible refine o_addI ?_)
  | (with_reducible refine o_subI ?_)
  | (with_reducible refine o_ltI ?_)
  | (with_reducible refine o_leI ?_)
  | (with_reducible refine o_gtI ?_)
  | (with_reducible refine o_geI ?_)
  | (with_reducible refine o_ltS ?_)
  | (with_reducible refine o_leS ?_)
  | (with_reducible refine o_gtS ?_)
  | (with_reducible refine o_geS ?_)
  | (with_reducible refine o_eqS ?_)
  | (with_reducible refine o_neS ?_)
  | (with_reducible refine o_isN ?_)
  | (with_reducible refine o_notN ?_)
  | (with_reducible refine o_isB ?_)
  | (with_reducible refine c_lenL ?_)
  | (with_reducible refine c_lenT ?_)
  | (with_reducible refine c_int ?_)
  | (with_reducible refine c_intB ?_)
  | (with_reducible refine c_ord ?_)
  | (with_reducible refine c_tupL ?_)
  | (with_reducible refine c_listL ?_)
  | (with_reducible refine c_listT ?_)
  | ((with_reducible refine o_eq ?_ ?_ ?_); (walk_at "sh"); (walk_at "sh"))
  | ((with_reducible refine o_ne ?_ ?_ ?_); (walk_at "sh"); (walk_at "sh"))
  | ((with_reducible refine' o_ixL ?hv ?_); (case hv => rfl))
  | ((with_reducible refine' o_ixT ?hv ?_); (case hv => rfl))
  | ((with_reducible refine o_modI ?_ ?_); (walk_at "sz"))
  | ((with_reducible refine o_addL ?_ ?_); (walk_at "sz"))
  | ((with_reducible refine o_addS ?_ ?_); (walk_at "sz"))
  | ((with_reducible refine o_addT ?_ ?_); (walk_at "sz"))
  | ((with_reducible refine c_lenS ?_ ?_); (walk_at "sz"))
  | refine iteT ?_
  | refine iteF ?_
  | refine And.intro (show _ ≤ sizeLine by walk_at "sz") ?_
  | refine ⟨_, rfl, ?_⟩
  | (refine' o_ixT ?hv ?_; (case hv => rfl))
  | (refine' o_ixL ?hv ?_; (case hv => rfl))
  | refine w_call ?_
  | refine w_callR ?_)
local macro_rules | `(tactic| walk_at "ws") => `(tactic| repeat walk_at "w")

section
variable {P : Program} {w : World} {K : PySem.W.Frag} {mg : Str → Option Value} {base : Heap}
def eD (e : Nat × Str) : PyData := .tuple [.str (sg e.1), .str e.2]
def EscOk (e : Nat × Str) : Prop := okC e.1 = true ∧ Sh 4 e.2
def IsEsc (x : PyData) : Prop := ∃ e, x = eD e ∧ EscOk e
abbrev s_is_escape : Stmt := top 18
theorem sc_is_escape : FnScope ["value"] ["value"] (defScope s_is_escape) := ⟨rfl, rfl, rfl, by decide +kernel, rfl, by decide +kernel, by decide +kernel⟩
def sp_is_escape  : Sp := spD 1 (fun ds => ∃ x, ds = [x] ∧ Nz true x) (fun ds d => ∃ x b, ds = [x] ∧ d = .bool b ∧ (b = true ↔ IsEsc x))
theorem d_is_escape (T : Bl mg) (F : FunAt K mg "is_escape" s_is_escape)  (d_is_short : Df P w K mg base CX0 3 "is_short" ["value", "most"] [] sp_is_short) (d_is_sign : Df P w K mg base CX0 1 "is_sign" ["value"] [] sp_is_sign) : Df P w K mg base CX0 4 "is_escape" ["value"] [] sp_is_escape := by
  refine df_of F sc_is_escape (spD_len rfl) (fun _ _ _ _ _ _ _ us hl => match us, hl with | [_], _ => rfl) fun f cdv A outer s H E hr => ?_
  refine ⟨_, (pss_one (ps_ret (pe_and (pe_callB call_isi (by rfl) T.isinstance_ (by rfl) (pa_cons (pv 0) (pa_cons (pe_bltn (v := .ty "tuple") (by rfl) T.tuple_ (by rfl) rfl) pa_nil))) (pe_and (pe_cmpR (op_eqX hr.units) (pe_callB call_lenX (by rfl) T.len_ (by rfl) (pa_cons (pv 0) pa_nil)) pe_int (nomark _)) (pe_and (pe_def (E := E0) d_is_sign hr (by decide) pass0 (pa_cons (pe_ix ix_seq (pv 0) pe_int (fun _ _ => rfl)) pa_nil)) (pe_one (pe_def (E := E0) d_is_short hr (by decide) pass0 (pa_cons (pe_ix ix_seq (pv 0) pe_int (fun _ _ => rfl)) (pa_cons pe_int pa_nil))))))))), fun vs Q h => ?_⟩
  refine body_D (n := 1) (k := 0) rfl (fun ds hl ⟨x, e, hx⟩ => ?_) vs H Q E h
  subst e
  have no : ¬ IsEsc x → ∃ x' b', [x] = [x'] ∧ PyData.bool false = .bool b' ∧ (b' = true ↔ IsEsc x') := fun h => ⟨x, _, rfl, rfl, ff h⟩
  walk_at "ws"
  refine iteB (fun h0 => ?_) fun h0 => ?_
  rotate_left
  · exact no fun ⟨r, e, _⟩ => by rw [e] at h0; cases h0
  obtain ⟨xs, rfl⟩ := isT_tup h0
  have hl := line5 hx.lenT
  walk_at "ws"
  rw [eqv_int]
  refine iteB (fun h1 => ?_) fun h1 => ?_
  rotate_left
  · rw [decide_eq_false_iff_not] at h1
    exact no fun ⟨r, e, _⟩ => by
      injection e with e
      rw [e] at h1
      exact h1 rfl
  rw [decide_eq_true_eq] at h1
  obtain ⟨a, b, rfl⟩ := len2 (xs := xs) (by omega)
  have ha := hx.itemT (x := a) (by simp)
  have hb := hx.itemT (x := b) (by simp)
  walk_at "ws"
  refine ⟨rfl, ⟨_, rfl, ha⟩, ?_⟩
  rintro d ⟨a', ba, e, rfl, h6⟩
  cases e
  walk_at "ws"
  refine iteB (fun h7 => ?_) fun h7 => ?_
  · subst h7
    obtain ⟨c, rfl, hc⟩ := h6.mp rfl
    walk_at "ws"
    refine ⟨rfl, ⟨_, 4, rfl, hb⟩, ?_⟩
    rintro d ⟨b', m, bb, e, rfl, h8⟩
    obtain ⟨q1, q2⟩ : b = b' ∧ (4 : Int) = (m : Nat) := by simpa using e
    subst q1
    have : m = 4 := by omega
    subst this
    refine ⟨_, _, rfl, rfl, h8.trans ?_⟩
    constructor
    · rintro ⟨z, rfl, h⟩
      exact ⟨(c, z), rfl, hc, h⟩
    · rintro ⟨r, e, hr⟩
      injection e with e
      simp only [List.cons.injEq, and_true] at e
      exact ⟨r.2, e.2, hr.2⟩
  · subst h7
    refine no fun ⟨r, e, hr⟩ => Bool.false_ne_true (h6.mpr ?_)
    injection e with e
    simp only [List.cons.injEq, and_true] at e
    exact ⟨r.1, e.1, hr.1⟩
/-! ### forms -/
def fD (rs : List (Str × Str × Str)) (es : List (Nat × Str)) : PyData := .tuple [.str "form", .list (rs.map rD), .list (es.map eD)]
structure FormOk (rs : List (Str × Str × Str)) (es : List (Nat × Str)) : Prop where
  r1 : 1 ≤ rs.length
  r6 : rs.length ≤ 6
  e12 : es.length ≤ 12
  hr : ∀ r ∈ rs, RoleOk r
  he : ∀ e ∈ es, EscOk e
  nd : (rs.map (·.1)).Nodup
  up : (es.map (·.1)).Pairwise (· < ·)
def IsForm (x : PyData) : Prop := ∃ (rs : List (Str × Str × Str)) (es : List (Nat × Str)), x = fD rs es ∧ FormOk rs es
theorem roles_ex : ∀ {xs : List PyData}, (∀ x ∈ xs, IsRole x) → ∃ rs : List (Str × Str × Str), xs = rs.map rD ∧ ∀ r ∈ rs, RoleOk r
  | [], _ => ⟨[], rfl, by simp⟩
  | x :: xs, h => by
    obtain ⟨r, e, hr⟩ := h x List.mem_cons_self
    obtain ⟨rs, e2, h2⟩ := roles_ex fun y hy => h y (List.mem_cons_of_mem _ hy)
    exact ⟨r :: rs, by rw [e, e2]; rfl, fun q hq => (List.mem_cons.mp hq).elim (fun z => by rw [z]; exact hr) (h2 q)⟩
theorem escs_ex : ∀ {xs : List PyData}, (∀ x ∈ xs, IsEsc x) → ∃ es : List (Nat × Str), xs = es.map eD ∧ ∀ r ∈ es, EscOk r
  | [], _ => ⟨[], rfl, by simp⟩
  | x :: xs, h => by
    obtain ⟨r, e, hr⟩ := h x List.mem_cons_self
    obtain ⟨rs, e2, h2⟩ := escs_ex fun y hy => h y (List.mem_cons_of_mem _ hy)
    exact ⟨r :: rs, by rw [e, e2]; rfl, fun q hq => (List.mem_cons.mp hq).elim (fun z => by rw [z]; exact hr) (h2 q)⟩
theorem rD_inj {a b : Str × Str × Str} (h : rD a = rD b) : a = b := by
  obtain ⟨a1, a2, a3⟩ := a
  obtain ⟨b1, b2, b3⟩ := b
  simp only [rD, PyData.tuple.injEq, List.cons.injEq, PyData.str.injEq, and_true] at h
  simp [h]
theorem eD_inj {a b : Nat × Str} (h : eD a = eD b) : a = b := by
  obtain ⟨a1, a2⟩ := a
  obtain ⟨b1, b2⟩ := b
  simp only [eD, PyData.tuple.injEq, List.cons.injEq, PyData.str.injEq, and_true, sg, str_inj] at h
  simp [h]
theorem map_inj {α β : Type} {f : α → β} (hf : ∀ {a b}, f a = f b → a = b) : ∀ {l m : List α}, l.map f = m.map f → l = m
  | [], [], _ => rfl
  | [], _ :: _, h => by simp at h
  | _ :: _, [], h => by simp at h
  | a :: l, b :: m, h => by
    simp only [List.map_cons, List.cons.injEq] at h
    rw [hf h.1, map_inj hf h.2]
theorem count_str (l : List Str) (x : Str) : (l.map PyData.str).countP (fun z => PyData.eqv z (.str x)) = l.count x := by
  induction l with
  | nil => rfl
  | cons a l ih =>
    rw [List.map_cons, List.countP_cons, ih, eqv_str, List.count_cons]
    by_cases h : a = x <;> simp [h]
theorem nodup_count {l : List Str} : (∀ x ∈ l, l.count x = 1) ↔ l.Nodup := by
  rw [List.nodup_iff_count]
  constructor
  · intro h a
    by_cases m : a ∈ l
    · rw [h a m]
      exact Nat.le_refl 1
    · rw [List.count_eq_zero_of_not_mem m]
      exact Nat.zero_le _
  · intro h x hx
    have := h x
    have := List.count_pos_iff.mpr hx
    omega
theorem up_step : ∀ {l : List Nat}, (∀ i a b, l[i]? = some a → l[i + 1]? = some b → a < b) ↔ l.Pairwise (· < ·)
  | [] => by simp
  | [x] => by
    constructor
    · intro _
      simp
    · intro _ i a b h1 h2
      simp at h2
  | x :: y :: l => by
    have ih := up_step (l := y :: l)
    constructor
    · intro h
      have h0 : x < y := h 0 x y rfl rfl
      have hp := ih.mp fun i a b h1 h2 => h (i + 1) a b h1 h2
      refine List.pairwise_cons.mpr ⟨fun z hz => ?_, hp⟩
      rcases List.mem_cons.mp hz with q | q
      · rw [q]
        exact h0
      · exact Nat.lt_trans h0 ((List.pairwise_cons.mp hp).1 z q)
    · intro h i a b h1 h2
      obtain ⟨p1, p2⟩ := List.pairwise_cons.mp h
      cases i with
      | zero =>
        simp at h1 h2
        subst h1
        subst h2
        exact p1 y List.mem_cons_self
      | succ i => exact ih.mpr p2 i a b (by simpa using h1) (by simpa using h2)
abbrev s_is_form : Stmt := top 19
theorem sc_is_form : FnScope ["value", "names", "signs", "role", "one", "name", "at"] ["value"] (defScope s_is_form) := ⟨rfl, rfl, rfl, by decide +kernel, rfl, by decide +kernel, by decide +kernel⟩
def sp_is_form  : Sp := spD 1 (fun ds => ∃ x, ds = [x] ∧ Nz false x) (fun ds d => ∃ x b, ds = [x] ∧ d = .bool b ∧ (b = true ↔ IsForm x))
theorem d_is_form (T : Bl mg) (C : Cs mg) (F : FunAt K mg "is_form" s_is_form)  (d_is_escape : Df P w K mg base CX0 4 "is_escape" ["value"] [] sp_is_escape) (d_is_role : Df P w K mg base CX0 4 "is_role" ["value"] [] sp_is_role) : Df P w K mg base CX0 5 "is_form" ["value"] [] sp_is_form ∧ DfR P w K mg base CX0 5 "is_form" ["value"] sp_is_form := by
  refine df_of2 F sc_is_form (spD_len rfl) (fun _ _ _ _ _ _ _ us hl => match us, hl with | [_], _ => rfl) (fun _ _ _ _ _ _ ws hl => match ws, hl with | [_], _ => rfl) fun f cdv A outer s H E hr => ?_
  refine ⟨_, (pss_cons (ps_if (PW.pt (pw_or (pt_not (pt_val (pe_callB call_isi (by rfl) T.isinstance_ (by rfl) (pa_cons (pv 0) (pa_cons (pe_bltn (v := .ty "tuple") (by rfl) T.tuple_ (by rfl) rfl) pa_nil))))) (pw_or (pt_cmpR (op_neX hr.units) (pe_callB call_lenX (by rfl) T.len_ (by rfl) (pa_cons (pv 0) pa_nil)) pe_int (nomark _)) (pw_or (pt_not (pt_val (pe_callB call_isi (by rfl) T.isinstance_ (by rfl) (pa_cons (pe_ix ix_seq (pv 0) pe_int (fun _ _ => rfl)) (pa_cons (pe_bltn (v := .ty "str") (by rfl) T.str_ (by rfl) rfl) pa_nil))))) (pw_or1 (pt_cmpR (op_neX hr.units) (pe_ix ix_seq (pv 0) pe_int (fun _ _ => rfl)) pe_str (nomark _))))))) (pss_one (ps_ret pe_bl)) pss_nil) (pss_cons (ps_if (PW.pt (pw_or (pt_not (pt_val (pe_callB call_isi (by rfl) T.isinstance_ (by rfl) (pa_cons (pe_ix ix_seq (pv 0) pe_int (fun _ _ => rfl)) (pa_cons (pe_bltn (v := .ty "list") (by rfl) T.list_ (by rfl) rfl) pa_nil))))) (pw_or1 (pt_not (pt_val (pe_callB call_isi (by rfl) T.isinstance_ (by rfl) (pa_cons (pe_ix ix_seq (pv 0) pe_int (fun _ _ => rfl)) (pa_cons (pe_bltn (v := .ty "list") (by rfl) T.list_ (by rfl) rfl) pa_nil)))))))) (pss_one (ps_ret pe_bl)) pss_nil) (pss_cons (ps_if (PW.pt (pw_or (pt_not (pt_chain op_leX op_leX pe_int (pe_callB call_lenX (by rfl) T.len_ (by rfl) (pa_cons (pe_ix ix_seq (pv 0) pe_int (fun _ _ => rfl)) pa_nil)) (pe_globC C.MOST_ROLES))) (pw_or1 (pt_cmpR op_gtX (pe_callB call_lenX (by rfl) T.len_ (by rfl) (pa_cons (pe_ix ix_seq (pv 0) pe_int (fun _ _ => rfl)) pa_nil)) (pe_globC C.MOST_ESCAPES) (nomark _))))) (pss_one (ps_ret pe_bl)) pss_nil) (pss_cons (ps_if (PW.pt (pw_or (pt_cmpR (op_neNil hr.units) (pe_lc (own := [("role", 3)]) (g := (gName 3)) (tt := (tNot (tB (tCall sp_is_role [] E0 (tCons (tVar 3) tNil))))) (te := (tVar 3)) rfl sc_is_form.nd (pi_any (pe_ix ix_seq (pv 0) pe_int (fun _ _ => rfl))) (blkOk_by (N := ["value", "names", "signs", "role", "one", "name", "at"]) (sc := defScope s_is_form) (by decide +kernel)) (fun _ _ _ _ _ => (pg_name (i := 3) sc_is_form.nd rfl (Or.inl rfl))) (fun _ _ _ _ _ => (pts_one (pt_not (pt_val (pe_def (E := E0) d_is_role hr (by decide) pass0 (pa_cons (pv 3) pa_nil)))))) (fun _ _ _ _ _ => (pv 3))) (pe_lst pa_nil) (nomark _)) (pw_or1 (pt_cmpR (op_neNil hr.units) (pe_lc (own := [("one", 4)]) (g := (gName 4)) (tt := (tNot (tB (tCall sp_is_escape [] E0 (tCons (tVar 4) tNil))))) (te := (tVar 4)) rfl sc_is_form.nd (pi_any (pe_ix ix_seq (pv 0) pe_int (fun _ _ => rfl))) (blkOk_by (N := ["value", "names", "signs", "role", "one", "name", "at"]) (sc := defScope s_is_form) (by decide +kernel)) (fun _ _ _ _ _ => (pg_name (i := 4) sc_is_form.nd rfl (Or.inl rfl))) (fun _ _ _ _ _ => (pts_one (pt_not (pt_val (pe_def (E := E0) d_is_escape hr (by decide) pass0 (pa_cons (pv 4) pa_nil)))))) (fun _ _ _ _ _ => (pv 4))) (pe_lst pa_nil) (nomark _))))) (pss_one (ps_ret pe_bl)) pss_nil) (pss_cons (ps_asg (pe_tup (pa_cons (pe_lc (own := [("role", 3)]) (g := (gName 3)) (tt := tYes) (te := (tOp (rIx K) (tVar 3) (tC (.int 0)))) rfl sc_is_form.nd (pi_any (pe_ix ix_seq (pv 0) pe_int (fun _ _ => rfl))) (blkOk_by (N := ["value", "names", "signs", "role", "one", "name", "at"]) (sc := defScope s_is_form) (by decide +kernel)) (fun _ _ _ _ _ => (pg_name (i := 3) sc_is_form.nd rfl (Or.inl rfl))) (fun _ _ _ _ _ => pts_nil) (fun _ _ _ _ _ => (pe_ix ix_seq (pv 3) pe_int (fun _ _ => rfl)))) (pa_cons (pe_lc (own := [("one", 4)]) (g := (gName 4)) (tt := tYes) (te := (tOp (rIx K) (tVar 4) (tC (.int 0)))) rfl sc_is_form.nd (pi_any (pe_ix ix_seq (pv 0) pe_int (fun _ _ => rfl))) (blkOk_by (N := ["value", "names", "signs", "role", "one", "name", "at"]) (sc := defScope s_is_form) (by decide +kernel)) (fun _ _ _ _ _ => (pg_name (i := 4) sc_is_form.nd rfl (Or.inl rfl))) (fun _ _ _ _ _ => pts_nil) (fun _ _ _ _ _ => (pe_ix ix_seq (pv 4) pe_int (fun _ _ => rfl)))) pa_nil))) (pg_tup rfl (pgs_cons (pg_name (i := 1) sc_is_form.nd rfl (Or.inr rfl)) (pgs_cons (pg_name (i := 2) sc_is_form.nd rfl (Or.inr rfl)) pgs_nil)))) (pss_cons (ps_if (pt_cmpR (op_neNil hr.units) (pe_lc (own := [("name", 5)]) (g := (gName 5)) (tt := (tTest (tOp (rEqX true) (tBM K "list" rCountD (tVar 1) (tCons (tVar 5) tNil)) (tC (.int 1))))) (te := (tVar 5)) rfl sc_is_form.nd (pi_any (pv 1)) (blkOk_by (N := ["value", "names", "signs", "role", "one", "name", "at"]) (sc := defScope s_is_form) (by decide +kernel)) (fun _ _ _ _ _ => (pg_name (i := 5) sc_is_form.nd rfl (Or.inl rfl))) (fun _ _ _ _ _ => (pts_one (pt_cmpR (op_neX hr.units) (pe_bm PySem.F.plainAttrs_list PySem.F.slot_list_count PySem.F.type_list_count (mt_countD (un65 hr)) (pv 1) (pa_cons (pv 5) pa_nil)) pe_int (nomark _)))) (fun _ _ _ _ _ => (pv 5))) (pe_lst pa_nil) (nomark _)) (pss_one (ps_ret pe_bl)) pss_nil) (pss_one (ps_ret (pe_cmpR (op_eqNil hr.units) (pe_lc (own := [("at", 6)]) (g := (gName 6)) (tt := (tTest (tOp rGeX (tOp (rIx K) (tVar 2) (tOp (rI0 fun i j => .int (i - j)) (tVar 6) (tC (.int 1)))) (tOp (rIx K) (tVar 2) (tVar 6))))) (te := (tVar 6)) rfl sc_is_form.nd (pi_range2 (by rfl) T.range_ (pa_cons pe_int (pa_cons (pe_callB call_lenX (by rfl) T.len_ (by rfl) (pa_cons (pv 2) pa_nil)) pa_nil))) (blkOk_by (N := ["value", "names", "signs", "role", "one", "name", "at"]) (sc := defScope s_is_form) (by decide +kernel)) (fun _ _ _ _ _ => (pg_name (i := 6) sc_is_form.nd rfl (Or.inl rfl))) (fun _ _ _ _ _ => (pts_one (pt_cmpR op_geX (pe_ix ix_seq (pv 2) (pe_op op_sub (pv 6) pe_int) (fun _ _ => rfl)) (pe_ix ix_seq (pv 2) (pv 6) (fun _ _ => rfl)) (nomark _)))) (fun _ _ _ _ _ => (pv 6))) (pe_lst pa_nil) (nomark _)))))))))), fun vs Q h => ?_⟩
  refine body_D (n := 1) (k := 6) rfl (fun ds hl ⟨x, e, hx⟩ => ?_) vs H Q E h
  subst e
  have no : ¬ IsForm x → ∃ x' b', [x] = [x'] ∧ PyData.bool false = .bool b' ∧ (b' = true ↔ IsForm x') := fun h => ⟨x, _, rfl, rfl, ff h⟩
  walk_at "ws"
  refine iteN (fun h0 => ?_) fun h0 => ?_
  · exact s_ret (w_bl (no fun ⟨rs, es, e, _⟩ => by rw [e] at h0; cases h0))
  obtain ⟨xs, rfl⟩ := isT_tup h0
  have hl := line5 hx.lenT
  walk_at "ws"
  rw [eqv_int]
  refine iteN (fun h1 => ?_) fun h1 => ?_
  · rw [decide_eq_false_iff_not] at h1
    exact s_ret (w_bl (no fun ⟨rs, es, e, _⟩ => by
      injection e with e
      rw [e] at h1
      exact h1 rfl))
  rw [decide_eq_true_eq] at h1
  obtain ⟨k, a, b, rfl⟩ := len3 (xs := xs) (by omega)
  have hk := hx.itemT (x := k) (by simp)
  have ha := hx.itemT (x := a) (by simp)
  have hb := hx.itemT (x := b) (by simp)
  have inj3 : ∀ {rs es}, PyData.tuple [k, a, b] = fD rs es → k = .str "form" ∧ a = .list (rs.map rD) ∧ b = .list (es.map eD) := fun e => by
    injection e with e
    simp only [List.cons.injEq, and_true] at e
    exact ⟨e.1, e.2.1, e.2.2⟩
  walk_at "ws"
  refine iteN (fun h2 => ?_) fun h2 => ?_
  · exact s_ret (w_bl (no fun ⟨rs, es, e, _⟩ => by
      rw [(inj3 e).1] at h2
      cases h2))
  obtain ⟨k, rfl⟩ := is_str h2
  have hks := hk.shaped
  walk_at "ws"
  rw [eqv_str]
  refine iteN (fun h3 => ?_) fun h3 => ?_
  · rw [decide_eq_false_iff_not] at h3
    exact s_ret (w_bl (no fun ⟨rs, es, e, _⟩ => by
      have := (inj3 e).1
      injection this with this
      exact h3 this))
  rw [decide_eq_true_eq] at h3
  subst h3
  walk_at "ws"
  refine iteN (fun h4 => ?_) fun h4 => ?_
  · exact s_ret (w_bl (no fun ⟨rs, es, e, _⟩ => by
      rw [(inj3 e).2.1] at h4
      cases h4))
  obtain ⟨ra, rfl⟩ := isT_lst h4
  walk_at "ws"
  refine iteN (fun h5 => ?_) fun h5 => ?_
  · exact s_ret (w_bl (no fun ⟨rs, es, e, _⟩ => by
      rw [(inj3 e).2.2] at h5
      cases h5))
  obtain ⟨ea, rfl⟩ := isT_lst h5
  have hal := line5 ha.lenL
  have hbl := line5 hb.lenL
  have injl : ∀ {rs es}, PyData.tuple [.str "form", .list ra, .list ea] = fD rs es → ra = rs.map rD ∧ ea = es.map eD := fun e => by
    obtain ⟨_, e1, e2⟩ := inj3 e
    injection e1 with e1
    injection e2 with e2
    exact ⟨e1, e2⟩
  walk_at "ws"
  refine iteB (fun h6 => ?_) fun h6 => ?_
  rotate_left
  · rw [decide_eq_false_iff_not] at h6
    walk_at "ws"
    exact no fun ⟨rs, es, e, o⟩ => h6 (by
      have := o.r1
      rw [(injl e).1, List.length_map]
      omega)
  rw [decide_eq_true_eq] at h6
  walk_at "ws"
  refine iteN (fun h7 => ?_) fun h7 => ?_
  · rw [decide_eq_false_iff_not] at h7
    exact s_ret (w_bl (no fun ⟨rs, es, e, o⟩ => h7 (by
      have := o.r6
      rw [(injl e).1, List.length_map]
      omega)))
  rw [decide_eq_true_eq] at h7
  walk_at "ws"
  refine iteB (fun h8 => ?_) fun h8 => ?_
  · rw [decide_eq_true_eq] at h8
    exact s_ret (w_bl (no fun ⟨rs, es, e, o⟩ => by
      have := o.e12
      rw [(injl e).2, List.length_map] at h8
      omega))
  rw [decide_eq_false_iff_not] at h8
  walk_at "ws"
  refine w_filD ra (fun x => !clb (IsRole x)) rfl hal (i_anyL ?_) (fun z hz => ?_) ?_
  · walk_at "ws"
    exact ⟨rfl, rfl⟩
  · refine w_not (w_tB (w_call (w_cons (w_var rfl (w_nil ⟨rfl, ⟨_, rfl, (ha.itemL hz).t⟩, ?_⟩)))))
    rintro d ⟨y, b, e, rfl, hb⟩
    cases e
    refine ⟨_, rfl, ?_, rfl⟩
    rw [clb_eq hb]
  have hs := ha.sub (List.filter_sublist (p := fun x => !clb (IsRole x)))
  refine w_lst (w_nil ⟨by decide, o_neNilD ⟨_, rfl, ?_⟩⟩)
  refine iteN (fun h9 => ?_) fun h9 => ?_
  · rw [decide_eq_false_iff_not, List.filter_eq_nil_iff] at h9
    exact s_ret (w_bl (no fun ⟨rs, es, e, o⟩ => h9 fun x hx => by
      rw [(injl e).1] at hx
      obtain ⟨r, hr, rfl⟩ := List.mem_map.mp hx
      rw [clb_t ⟨r, rfl, o.hr r hr⟩]
      exact Bool.false_ne_true))
  rw [decide_eq_true_eq, List.filter_eq_nil_iff] at h9
  walk_at "ws"
  refine w_filD ea (fun x => !clb (IsEsc x)) rfl hbl (i_anyL ?_) (fun z hz => ?_) ?_
  · walk_at "ws"
    exact ⟨rfl, rfl⟩
  · refine w_not (w_tB (w_call (w_cons (w_var rfl (w_nil ⟨rfl, ⟨_, rfl, (hb.itemL hz).t⟩, ?_⟩)))))
    rintro d ⟨y, b, e, rfl, hb⟩
    cases e
    refine ⟨_, rfl, ?_, rfl⟩
    rw [clb_eq hb]
  have hs := hb.sub (List.filter_sublist (p := fun x => !clb (IsEsc x)))
  refine w_lst (w_nil ⟨by decide, o_neNilD ⟨_, rfl, ?_⟩⟩)
  refine iteN (fun h10 => ?_) fun h10 => ?_
  · rw [decide_eq_false_iff_not, List.filter_eq_nil_iff] at h10
    exact s_ret (w_bl (no fun ⟨rs, es, e, o⟩ => h10 fun x hx => by
      rw [(injl e).2] at hx
      obtain ⟨r, hr, rfl⟩ := List.mem_map.mp hx
      rw [clb_t ⟨r, rfl, o.he r hr⟩]
      exact Bool.false_ne_true))
  rw [decide_eq_true_eq, List.filter_eq_nil_iff] at h10
  obtain ⟨rs, rfl, hrs⟩ := roles_ex (xs := ra) fun x hx => clb_iff.mp (by simpa using h9 x hx)
  obtain ⟨es, rfl, hes⟩ := escs_ex (xs := ea) fun x hx => clb_iff.mp (by simpa using h10 x hx)
  rw [List.length_map] at h6 h7 h8
  have inj4 : ∀ {rs' es'}, fD rs es = fD rs' es' → rs = rs' ∧ es = es' := fun e => by
    obtain ⟨e1, e2⟩ := injl e
    exact ⟨map_inj rD_inj e1, map_inj eD_inj e2⟩
  refine s_next (s_seq (s_asgG (w_tup (w_cons (w_mapL rs rD PyData.str (·.1) rfl (by rw [List.length_map] at hal; exact hal) (i_anyL ?_) (fun r hr => ?_) (w_cons (w_mapL es eD PyData.str (fun e => sg e.1) rfl (by rw [List.length_map] at hbl; exact hbl) (i_anyL ?_) (fun r hr => ?_) (w_nil ⟨by walk_at "sz", ?_⟩))))))))
  · walk_at "ws"
    exact ⟨rfl, rfl⟩
  · walk_at "ws"
    exact ⟨rfl, rfl⟩
  · walk_at "ws"
    exact ⟨rfl, rfl⟩
  · walk_at "ws"
    exact ⟨rfl, rfl⟩
  refine g_tup rfl (gs_cons (g_name (gs_cons (g_name (gs_nil ?_)))))
  have nst : ∀ x ∈ (rs.map (·.1)).map PyData.str, Sm false 0 8 x := fun x hx => by
    obtain ⟨y, hy, rfl⟩ := List.mem_map.mp hx
    obtain ⟨r, hr, rfl⟩ := List.mem_map.mp hy
    refine Sm.str (fun c hc => ?_) (hrs r hr).1.2.1
    have := (hrs r hr).1.2.2 c hc
    simp only [smC, Bool.and_eq_true, decide_eq_true_eq] at this
    omega
  have nl : ((rs.map (·.1)).map PyData.str).length ≤ 6 := by
    rw [List.length_map, List.length_map]
    omega
  have nz := Nz.of (Sm.list nst nl) (by decide) (by decide)
  refine s_seq (s_if (w_test (w_op (w_filL (rs.map (·.1)) PyData.str (fun x => !decide ((rs.map (·.1)).count x = 1)) rfl (by rw [List.length_map] at nl; exact line5 (by omega)) (i_anyL (w_var rfl ⟨_, rfl, rfl, rfl⟩)) (fun x hx => ?_) PyData.str id (fun x hx _ => w_var rfl ⟨rfl, rfl⟩) ?_))))
  · refine w_test (w_op (w_count (w_var rfl ⟨_, rfl, w_var rfl ⟨nz.shaped, (nz.itemL (List.mem_map.mpr ⟨x, hx, rfl⟩)).shaped, ?_⟩⟩)))
    rw [count_str]
    refine w_int (o_ne (shaped_int _) (shaped_int _) ⟨_, rfl, ?_, rfl⟩)
    rw [eqv_int]
    congr 2
    exact propext ⟨fun h => by omega, fun h => by omega⟩
  rw [List.map_id]
  have nz2 := nz.sub ((List.filter_sublist (p := fun x => !decide ((rs.map (·.1)).count x = 1)) (l := rs.map (·.1))).map PyData.str)
  refine w_lst (w_nil ⟨by decide, o_neNilD ⟨_, rfl, ?_⟩⟩)
  have nd : List.map PyData.str (List.filter (fun x => !decide ((rs.map (·.1)).count x = 1)) (rs.map (·.1))) = [] ↔ (rs.map (·.1)).Nodup := by
    rw [List.map_eq_nil_iff, List.filter_eq_nil_iff, ← nodup_count]
    simp
  refine iteN (fun h11 => ?_) fun h11 => ?_
  · rw [decide_eq_false_iff_not, nd] at h11
    exact s_ret (w_bl (no fun ⟨rs', es', e, o⟩ => h11 (by
      obtain ⟨e1, e2⟩ := inj4 e
      rw [e1]
      exact o.nd)))
  rw [decide_eq_true_eq, nd] at h11
  rw [List.length_map] at hbl
  have hsi : ∀ i : Nat, i < es.length → ∃ c t, es[i]? = some (c, t) := fun i hi => ⟨_, _, List.getElem?_eq_getElem hi⟩
  have at_ : ∀ (i c : Nat) (t : Str), es[i]? = some (c, t) → atI (List.map PyData.str (List.map (fun e => sg e.1) es)) (i : Int) = some (.str (sg c)) := fun i c t h => atI_nat (by rw [List.getElem?_map, List.getElem?_map, h]; rfl)
  refine s_next (s_ret (w_op (w_filL (List.range (es.length - 1)) (fun i : Nat => .int (1 + (i : Int))) (fun i => !decide ((es.map (·.1)).getD i 0 < (es.map (·.1)).getD (i + 1) 0)) rfl (by rw [List.length_range]; omega) (i_rng2 (w_cons (w_int (w_cons (w_callB (w_cons (w_var rfl (w_nil (c_lenL (w_nil ⟨_, _, rfl, ?_, ?_⟩)))))))))) (fun i hi => ?_) (fun x => x) (fun i : Nat => .int (1 + (i : Int))) (fun a _ _ => w_var rfl ⟨rfl, rfl⟩) ?_)))
  · rw [List.length_map, List.length_map]
    omega
  · rw [List.length_map, List.length_map]
    refine ⟨?_, rfl⟩
    rw [show (((es.length : Nat) : Int) - 1).toNat = es.length - 1 by omega]
    rfl
  · have hi := List.mem_range.mp hi
    obtain ⟨a, ta, ea⟩ := hsi i (by omega)
    obtain ⟨b, tb, eb⟩ := hsi (i + 1) (by omega)
    refine w_test (w_op (w_op (w_var rfl (w_op (w_var rfl (w_int (o_subI (o_ixL (d := .str (sg a)) ?_ (w_op (w_var rfl (w_var rfl (o_ixL (d := .str (sg b)) ?_ (o_geS ⟨_, rfl, ?_, rfl⟩)))))))))))))
    · rw [show (1 + (i : Int) - 1) = (i : Nat) by omega]
      exact at_ i a ta ea
    · rw [show (1 + (i : Int)) = ((i + 1 : Nat) : Int) by omega]
      exact at_ (i + 1) b tb eb
    · rw [show (sg a).cps.toList = [a] from rfl, show (sg b).cps.toList = [b] from rfl, sgl_lt, List.getD_eq_getElem?_getD, List.getD_eq_getElem?_getD, List.getElem?_map, List.getElem?_map, ea, eb]
      rfl
  rw [List.map_id'' (f := fun x => x) (fun _ => rfl)]
  refine w_lst (w_nil ⟨by decide, o_eqNil ⟨_, _, rfl, rfl, ?_⟩⟩)
  rw [decide_eq_true_eq, List.map_eq_nil_iff, List.filter_eq_nil_iff]
  have up : (∀ i ∈ List.range (es.length - 1), ¬(!decide ((es.map (·.1)).getD i 0 < (es.map (·.1)).getD (i + 1) 0)) = true) ↔ (es.map (·.1)).Pairwise (· < ·) := by
    rw [← up_step]
    constructor
    · intro h i a b h1 h2
      have hi : i + 1 < es.length := by
        have := (List.getElem?_eq_some_iff.mp h2).1
        simpa using this
      have := h i (List.mem_range.mpr (by omega))
      rw [List.getD_eq_getElem?_getD, List.getD_eq_getElem?_getD, h1, h2] at this
      simpa using this
    · intro h i hi
      have hi := List.mem_range.mp hi
      obtain ⟨a, ta, ea⟩ := hsi i (by omega)
      obtain ⟨b, tb, eb⟩ := hsi (i + 1) (by omega)
      have := h i a b (by rw [List.getElem?_map, ea]; rfl) (by rw [List.getElem?_map, eb]; rfl)
      rw [List.getD_eq_getElem?_getD, List.getD_eq_getElem?_getD, List.getElem?_map, List.getElem?_map, ea, eb]
      simpa using this
  rw [up]
  constructor
  · intro h
    exact ⟨rs, es, rfl, by omega, by omega, by omega, hrs, hes, h11, h⟩
  · rintro ⟨rs', es', e, o⟩
    obtain ⟨e1, e2⟩ := inj4 e
    rw [e2]
    exact o.up
end
end K81


namespace K81
open PySem PySem.Spec PyProof.Rows L2 DL ErX
open Evl (Ex)
local macro_rules | `(tactic| walk_at "sz") => `(tactic| first | assumption | (rw [sizeLine_eq]; simp only [List.length_cons, List.length_nil, List.length_append, List.length_map, List.length_replicate, List.length_range]; omega) | (rw [sizeLine_eq]; simp; done) | (rw [sizeLine_eq]; simp; omega) | omega)
local macro_rules | `(tactic| walk_at "sh") => `(tactic| first | assumption | exact shaped_int _ | rfl | (exact ty_shaped (by assumption)) | (decide +kernel))
local macro_rules | `(tactic| walk_at "w") => `(tactic| first
  | ((with_reducible refine' w_var ?hv ?_); (case hv => rfl))
  | (with_reducible refine s_seq ?_)
  | (with_reducible refine s_set ?_)
  | (with_reducible refine s_ret ?_)
  | (with_reducible refine s_if ?_)
  | (with_reducible refine s_next ?_)
  | (with_reducible refine x_seq ?_)
  | (with_reducible refine x_if ?_)
  | ((with_reducible refine' w_isi ?_ ?_); decide)
  | (with_reducible refine w_callB ?_)
  | (with_reducible refine w_op ?_)
  | (with_reducible refine w_cons ?_)
  | (with_reducible refine w_nil ?_)
  | (with_reducible refine w_int ?_)
  | (with_reducible refine w_str ?_)
  | (with_reducible refine w_bl ?_)
  | (with_reducible refine w_non ?_)
  | (with_reducible refine w_test ?_)
  | (with_reducible refine w_tB ?_)
  | (with_reducible refine w_and ?_)
  | (with_reducible refine w_or ?_)
  | (with_reducible refine w_not ?_)
  | (with_reducible refine w_andV ?_)
  | (with_reducible refine w_orV ?_)
  | (with_reducible refine w_notV ?_)
  | (with_reducible refine w_if ?_)
  | ((with_reducible refine' w_chain ?hh ?hv); (case hv => rfl))
  | (with_reducible refine w_lst ?_)
  | (with_reducible refine w_tup ?_)
  | (with_reducible refine w_dnew ?_)
  | (with_reducible refine o_addI ?_)
  | (with_reducible refine o_subI ?_)
  | (with_reducible refine o_ltI ?_)
  | (with_reducible refine o_leI ?_)
  | (with_reducible refine o_gtI ?_)
  | (with_reducible refine o_geI ?_)
  | (with_reducible refine o_ltS ?_)
  | (with_reducible refine o_leS ?_)
  | (with_reducible refine o_gtS ?_)
  | (with_reducible refine o_geS ?_)
  | (with_reducible refine o_eqS ?_)
  | (with_reducible refine o_neS ?_)
  | (with_reducible refine o_isN ?_)
  | (with_reducible refine o_notN ?_)
  | (with_reducible refine o_isB ?_)
  | (with_reducible refine c_lenL ?_)
  | (with_reducible refine c_lenT ?_)
  | (with_reducible refine c_int ?_)
  | (with_reducible refine c_intB ?_)
  | (with_reducible refine c_ord ?_)
  | (with_reducible refine c_tupL ?_)
  | (with_reducible refine c_listL ?_)
  | (with_reducible refine c_listT ?_)
  | ((with_reducible refine o_eq ?_ ?_ ?_); (walk_at "sh"); (walk_at "sh"))
  | ((with_reducible refine o_ne ?_ ?_ ?_); (walk_at "sh"); (walk_at "sh"))
  | ((with_reducible refine' o_ixL ?hv ?_); (case hv => rfl))
  | ((with_reducible refine' o_ixT ?hv ?_); (case hv => rfl))
  | ((with_reducible refine o_modI ?_ ?_); (walk_at "sz"))
  | ((with_reducible refine o_addL ?_ ?_); (walk_at "sz"))
  | ((with_reducible refine o_addS ?_ ?_); (walk_at "sz"))
  | ((with_reducible refine o_addT ?_ ?_); (walk_at "sz"))
  | ((with_reducible refine c_lenS ?_ ?_); (walk_at "sz"))
  | refine iteT ?_
  | refine iteF ?_
  | refine And.intro (show _ ≤ sizeLine by walk_at "sz") ?_
  | refine ⟨_, rfl, ?_⟩
  | (refine' o_ixT ?hv ?_; (case hv => rfl))
  | (refine' o_ixL ?hv ?_; (case hv => rfl))
  | refine w_call ?_
  | refine w_callR ?_)
local macro_rules | `(tactic| walk_at "ws") => `(tactic| repeat walk_at "w")

section
variable {P : Program} {w : World} {K : PySem.W.Frag} {mg : Str → Option Value} {base : Heap} {CF CX CT : Addr}
abbrev s_check_form : Stmt := top 20
theorem sc_check_form : FnScope ["form"] ["form"] (defScope s_check_form) := ⟨rfl, rfl, rfl, by decide +kernel, rfl, by decide +kernel, by decide +kernel⟩
def sp_check_form (CF : Addr) : Sp := spR 1 (fun ds => ∃ x, ds = [x] ∧ Nz false x) (fun ds _ => ∃ x, ds = [x] ∧ IsForm x) (fun ds C y => C = CF ∧ ∃ x, ds = [x] ∧ ¬ IsForm x ∧ y = x)
theorem d_check_form (T : Bl mg) (R : Er P K mg CF CX CT) (F : FunAt K mg "check_form" s_check_form)  (d_is_form : Df P w K mg base CX0 5 "is_form" ["value"] [] sp_is_form) : Df P w K mg base (L2.CX P w) 6 "check_form" ["form"] [] (sp_check_form CF) := by
  obtain ⟨f_InvalidForm, E_InvalidForm⟩ := R.InvalidForm
  refine dfx_of F sc_check_form (spR_len rfl) (fun _ _ _ _ _ _ _ us hl => match us, hl with | [_], _ => rfl) fun f cdv A outer s H E hr => ?_
  refine ⟨_, (pss_one (ps_if (pt_not (pt_val (pe_def (E := E0) d_is_form hr (by decide) pass0 (pa_cons (pv 0) pa_nil)))) (pss_one (ps_raiseE rfl E_InvalidForm (hr.mono (by decide)) (takes_of rfl rfl rfl rfl) (pa_cons (pv 0) pa_nil))) pss_nil)), fun vs Q h => ?_⟩
  refine body_R (n := 1) (k := 0) rfl (fun ds hl ⟨x, e, hx⟩ => ?_) vs H Q h
  subst e
  refine x_if (w_not (w_tB (w_call (w_cons (w_var rfl (w_nil ⟨rfl, ⟨_, rfl, hx⟩, ?_⟩))))))
  rintro d ⟨x', b, e, rfl, hb⟩
  cases e
  refine ⟨_, rfl, iteN (fun h => ?_) fun h => ?_⟩
  · subst h
    exact x_raise (w_cons (w_var rfl (w_nil ⟨x, rfl, rfl, x, rfl, fun z => Bool.false_ne_true (hb.mpr z), rfl⟩)))
  · exact x_of (s_next ⟨x, rfl, hb.mp h⟩)
abbrev s_check_text : Stmt := top 21
theorem sc_check_text : FnScope ["text"] ["text"] (defScope s_check_text) := ⟨rfl, rfl, rfl, by decide +kernel, rfl, by decide +kernel, by decide +kernel⟩
def sp_check_text (CX : Addr) : Sp := spR 1 (fun ds => ∃ x, ds = [x] ∧ Nz true x) (fun ds _ => ∃ x, ds = [x] ∧ IsTx x) (fun ds C y => C = CX ∧ ∃ x, ds = [x] ∧ ¬ IsTx x ∧ y = x)
theorem d_check_text (T : Bl mg) (R : Er P K mg CF CX CT) (F : FunAt K mg "check_text" s_check_text)  (d_is_text : Df P w K mg base CX0 2 "is_text" ["value"] [] sp_is_text) : Df P w K mg base (L2.CX P w) 3 "check_text" ["text"] [] (sp_check_text CX) := by
  obtain ⟨f_InvalidText, E_InvalidText⟩ := R.InvalidText
  refine dfx_of F sc_check_text (spR_len rfl) (fun _ _ _ _ _ _ _ us hl => match us, hl with | [_], _ => rfl) fun f cdv A outer s H E hr => ?_
  refine ⟨_, (pss_one (ps_if (pt_not (pt_val (pe_def (E := E0) d_is_text hr (by decide) pass0 (pa_cons (pv 0) pa_nil)))) (pss_one (ps_raiseE rfl E_InvalidText (hr.mono (by decide)) (takes_of rfl rfl rfl rfl) (pa_cons (pv 0) pa_nil))) pss_nil)), fun vs Q h => ?_⟩
  refine body_R (n := 1) (k := 0) rfl (fun ds hl ⟨x, e, hx⟩ => ?_) vs H Q h
  subst e
  refine x_if (w_not (w_tB (w_call (w_cons (w_var rfl (w_nil ⟨rfl, ⟨_, rfl, hx⟩, ?_⟩))))))
  rintro d ⟨x', b, e, rfl, hb⟩
  cases e
  refine ⟨_, rfl, iteN (fun h => ?_) fun h => ?_⟩
  · subst h
    exact x_raise (w_cons (w_var rfl (w_nil ⟨x, rfl, rfl, x, rfl, fun z => Bool.false_ne_true (hb.mpr z), rfl⟩)))
  · exact x_of (s_next ⟨x, rfl, hb.mp h⟩)
/-! ### roles of a form, messages, talks -/
def roleOf (rs : List (Str × Str × Str)) (n : Str) : Option (Str × Str × Str) := rs.find? fun r => decide (r.1 = n)
def optR : Option (Str × Str × Str) → PyData
  | none => .none
  | some r => rD r
theorem fD_inj {rs rs' : List (Str × Str × Str)} {es es' : List (Nat × Str)} (h : fD rs es = fD rs' es') : rs = rs' ∧ es = es' := by
  simp only [fD, PyData.tuple.injEq, List.cons.injEq, PyData.list.injEq, and_true, true_and] at h
  exact ⟨map_inj rD_inj h.1, map_inj eD_inj h.2⟩
theorem name_lt {n : Str} (h : IsName n) : ∀ c ∈ n.cps.toList, c < 0x110000 := fun c hc => by
  have := h.2.2 c hc
  simp only [smC, Bool.and_eq_true, decide_eq_true_eq] at this
  omega
theorem okC_lt {c : Nat} (h : okC c = true) : c < 127 := by
  simp only [okC, Bool.or_eq_true, Bool.and_eq_true, decide_eq_true_eq] at h
  omega
theorem allC_lt {n : Str} (h : AllC n) : ∀ c ∈ n.cps.toList, c < 0x110000 := fun c hc => by
  have := okC_lt (h c hc)
  omega
abbrev s_role_of : Stmt := top 22
theorem sc_role_of : FnScope ["form", "name", "role"] ["form", "name"] (defScope s_role_of) := ⟨rfl, rfl, rfl, by decide +kernel, rfl, by decide +kernel, by decide +kernel⟩
def sp_role_of  : Sp := spD 2 (fun ds => ∃ rs es n, ds = [fD rs es, .str n] ∧ FormOk rs es ∧ Nz true (.str n)) (fun ds d => ∃ rs es n, ds = [fD rs es, .str n] ∧ d = optR (roleOf rs n))
theorem d_role_of (T : Bl mg) (F : FunAt K mg "role_of" s_role_of)   : Df P w K mg base CX0 1 "role_of" ["form", "name"] [] sp_role_of := by
  refine df_of F sc_role_of (spD_len rfl) (fun _ _ _ _ _ _ _ us hl => match us, hl with | [_, _], _ => rfl) fun f cdv A outer s H E hr => ?_
  refine ⟨_, (pss_cons (ps_for PassesOwn.never rfl (pi_any (pe_ix ix_seq (pv 0) pe_int (fun _ _ => rfl))) (pg_name (i := 2) sc_role_of.nd rfl (Or.inl rfl)) (pss_one (ps_if (pt_cmpR (op_eqX hr.units) (pe_ix ix_seq (pv 2) pe_int (fun _ _ => rfl)) (pv 1) (nomark _)) (pss_one (ps_ret (pv 2))) pss_nil))) (pss_one (ps_ret pe_non))), fun vs Q h => ?_⟩
  refine body_D (n := 2) (k := 1) rfl (fun ds hl ⟨rs, es, n, e, o, hn⟩ => ?_) vs H Q E h
  subst e
  have ns : SeqAt.shaped (.str n) = true := by
    have := hn.ok
    exact Nz.shaped ⟨by simpa [okD] using this, hn.dep, hn.wt⟩
  refine s_seq (s_for (i_anyL (w_op (w_var rfl (w_int (o_ixT (d := .list (rs.map rD)) rfl ?_))))))
  refine ⟨_, rfl, fun i ρ => (∃ e2, ρ = [.dat (fD rs es), .dat (.str n), e2]) ∧ ∀ r ∈ rs.take i, r.1 ≠ n, ⟨⟨.no, rfl⟩, by simp⟩, ?_, ?_⟩
  · rintro ρ ⟨⟨e2, rfl⟩, h⟩
    rw [List.length_map, List.take_length] at h
    refine s_ret (w_non ⟨rs, es, n, rfl, ?_⟩)
    have : roleOf rs n = none := List.find?_eq_none.mpr fun r hr => by simpa using h r hr
    rw [this]
    rfl
  · rintro i d ρ hd ⟨⟨e2, rfl⟩, h⟩
    rw [List.getElem?_map] at hd
    cases q : rs[i]? with
    | none =>
      rw [q] at hd
      cases hd
    | some r =>
      rw [q] at hd
      cases hd
      have hr := List.mem_of_getElem? q
      have rsh : SeqAt.shaped (.str r.1) = true := (Nz.of (b := false) (Sm.str (W := 8) (name_lt (o.hr r hr).1) (o.hr r hr).1.2.1) (by decide) (by decide)).shaped
      refine g_name (s_if (w_test (w_op (w_op (w_var rfl (w_int (o_ixT (d := .str r.1) rfl (w_var rfl (o_eq rsh ns ⟨_, rfl, ?_⟩)))))))))
      rw [eqv_str]
      refine iteB (fun h0 => ?_) fun h0 => ?_
      · rw [decide_eq_true_eq] at h0
        refine s_ret (w_var rfl ⟨rs, es, n, rfl, ?_⟩)
        have hi : i < rs.length := (List.getElem?_eq_some_iff.mp q).1
        have : roleOf rs n = some r := by
          unfold roleOf
          have sp : rs = rs.take i ++ r :: rs.drop (i + 1) := by
            have e := List.getElem?_eq_some_iff.mp q
            rw [← e.2]
            simp
          rw [sp, List.find?_append, List.find?_eq_none.mpr (fun x hx => by simpa using h x hx), List.find?_cons_of_pos (by simpa using h0)]
          rfl
        rw [this]
        rfl
      · rw [decide_eq_false_iff_not] at h0
        refine s_next ⟨⟨_, rfl⟩, fun x hx => ?_⟩
        rw [List.take_succ, q] at hx
        rcases List.mem_append.mp hx with y | y
        · exact h x y
        · have : x = r := by simpa using y
          rw [this]
          exact h0
def mD (m : Str × Str) : PyData := .tuple [.str m.1, .str m.2]
def MsgOk (rs : List (Str × Str × Str)) (m : Str × Str) : Prop := m.1 ∈ rs.map (·.1) ∧ AllC m.2
def IsMsg (rs : List (Str × Str × Str)) (x : PyData) : Prop := ∃ m, x = mD m ∧ MsgOk rs m
def IsTalk (rs : List (Str × Str × Str)) (x : PyData) : Prop := ∃ ms : List (Str × Str), x = .list (ms.map mD) ∧ ∀ m ∈ ms, MsgOk rs m
theorem roleOf_some {rs : List (Str × Str × Str)} {n : Str} : (∃ r, roleOf rs n = some r) ↔ n ∈ rs.map (·.1) := by
  unfold roleOf
  rw [← Option.isSome_iff_exists, List.find?_isSome]
  simp [List.mem_map]
theorem isNone_opt (o : Option (Str × Str × Str)) : isNone (optR o) = o.isNone := by
  cases o <;> rfl
abbrev s_is_message : Stmt := top 23
theorem sc_is_message : FnScope ["form", "value"] ["form", "value"] (defScope s_is_message) := ⟨rfl, rfl, rfl, by decide +kernel, rfl, by decide +kernel, by decide +kernel⟩
def sp_is_message  : Sp := spD 2 (fun ds => ∃ rs es x, ds = [fD rs es, x] ∧ FormOk rs es ∧ Nz true x) (fun ds d => ∃ rs es x b, ds = [fD rs es, x] ∧ d = .bool b ∧ (b = true ↔ IsMsg rs x))
theorem d_is_message (T : Bl mg) (F : FunAt K mg "is_message" s_is_message)  (d_is_text : Df P w K mg base CX0 2 "is_text" ["value"] [] sp_is_text) (d_role_of : Df P w K mg base CX0 1 "role_of" ["form", "name"] [] sp_role_of) : Df P w K mg base CX0 3 "is_message" ["form", "value"] [] sp_is_message := by
  refine df_of F sc_is_message (spD_len rfl) (fun _ _ _ _ _ _ _ us hl => match us, hl with | [_, _], _ => rfl) fun f cdv A outer s H E hr => ?_
  refine ⟨_, (pss_cons (ps_if (PW.pt (pw_or (pt_not (pt_val (pe_callB call_isi (by rfl) T.isinstance_ (by rfl) (pa_cons (pv 1) (pa_cons (pe_bltn (v := .ty "tuple") (by rfl) T.tuple_ (by rfl) rfl) pa_nil))))) (pw_or (pt_cmpR (op_neX hr.units) (pe_callB call_lenX (by rfl) T.len_ (by rfl) (pa_cons (pv 1) pa_nil)) pe_int (nomark _)) (pw_or1 (pt_not (pt_val (pe_callB call_isi (by rfl) T.isinstance_ (by rfl) (pa_cons (pe_ix ix_seq (pv 1) pe_int (fun _ _ => rfl)) (pa_cons (pe_bltn (v := .ty "str") (by rfl) T.str_ (by rfl) rfl) pa_nil))))))))) (pss_one (ps_ret pe_bl)) pss_nil) (pss_one (ps_ret (pe_and (pe_cmpR op_notN (pe_def (E := E0) d_role_of hr (by decide) pass0 (pa_cons (pv 0) (pa_cons (pe_ix ix_seq (pv 1) pe_int (fun _ _ => rfl)) pa_nil))) pe_non (nomark _)) (pe_one (pe_def (E := E0) d_is_text hr (by decide) pass0 (pa_cons (pe_ix ix_seq (pv 1) pe_int (fun _ _ => rfl)) pa_nil))))))), fun vs Q h => ?_⟩
  refine body_D (n := 2) (k := 0) rfl (fun ds hl ⟨rs, es, x, e, o, hx⟩ => ?_) vs H Q E h
  subst e
  have no : ¬ IsMsg rs x → ∃ rs' es' x' b', [fD rs es, x] = [fD rs' es', x'] ∧ PyData.bool false = .bool b' ∧ (b' = true ↔ IsMsg rs' x') := fun h => ⟨rs, es, x, _, rfl, rfl, ff h⟩
  walk_at "ws"
  refine iteN (fun h0 => ?_) fun h0 => ?_
  · exact s_ret (w_bl (no fun ⟨m, e, _⟩ => by rw [e] at h0; cases h0))
  obtain ⟨xs, rfl⟩ := isT_tup h0
  have hl := line5 hx.lenT
  walk_at "ws"
  rw [eqv_int]
  refine iteN (fun h1 => ?_) fun h1 => ?_
  · rw [decide_eq_false_iff_not] at h1
    exact s_ret (w_bl (no fun ⟨m, e, _⟩ => by
      injection e with e
      rw [e] at h1
      exact h1 rfl))
  rw [decide_eq_true_eq] at h1
  obtain ⟨a, b, rfl⟩ := len2 (xs := xs) (by omega)
  have ha := hx.itemT (x := a) (by simp)
  have hb := hx.itemT (x := b) (by simp)
  have inj2 : ∀ {m}, PyData.tuple [a, b] = mD m → a = .str m.1 ∧ b = .str m.2 := fun e => by
    injection e with e
    simp only [List.cons.injEq, and_true] at e
    exact e
  walk_at "ws"
  refine iteN (fun h2 => ?_) fun h2 => ?_
  · exact s_ret (w_bl (no fun ⟨m, e, _⟩ => by
      rw [(inj2 e).1] at h2
      cases h2))
  obtain ⟨n, rfl⟩ := is_str h2
  walk_at "ws"
  refine ⟨rfl, ⟨_, _, _, rfl, o, ha⟩, ?_⟩
  rintro d ⟨rs', es', n', e, rfl⟩
  simp only [List.cons.injEq, and_true, PyData.str.injEq] at e
  obtain ⟨e1, e2⟩ := e
  obtain ⟨e1, _⟩ := fD_inj e1
  subst e1
  subst e2
  walk_at "ws"
  rw [isNone_opt]
  refine iteN (fun h3 => ?_) fun h3 => ?_
  · walk_at "ws"
    refine ⟨rfl, ⟨_, rfl, hb⟩, ?_⟩
    rintro d ⟨b', bb, e, rfl, hb'⟩
    cases e
    refine ⟨rs, es, _, _, rfl, rfl, hb'.trans ?_⟩
    have hn : n ∈ rs.map (·.1) := roleOf_some.mp (by
      cases q : roleOf rs n with
      | none => rw [q] at h3; cases h3
      | some r => exact ⟨r, rfl⟩)
    constructor
    · rintro ⟨z, rfl, h⟩
      exact ⟨(n, z), rfl, hn, h⟩
    · rintro ⟨m, e, h⟩
      exact ⟨m.2, (inj2 e).2, h.2⟩
  · refine no fun ⟨m, e, h⟩ => ?_
    have := (inj2 e).1
    injection this with this
    obtain ⟨r, hr⟩ := roleOf_some.mpr (show n ∈ rs.map (·.1) by rw [this]; exact h.1)
    rw [hr] at h3
    cases h3
theorem msgs_ex {rs : List (Str × Str × Str)} : ∀ {xs : List PyData}, (∀ x ∈ xs, IsMsg rs x) → ∃ ms : List (Str × Str), xs = ms.map mD ∧ ∀ m ∈ ms, MsgOk rs m
  | [], _ => ⟨[], rfl, by simp⟩
  | x :: xs, h => by
    obtain ⟨r, e, hr⟩ := h x List.mem_cons_self
    obtain ⟨ms, e2, h2⟩ := msgs_ex fun y hy => h y (List.mem_cons_of_mem _ hy)
    exact ⟨r :: ms, by rw [e, e2]; rfl, fun q hq => (List.mem_cons.mp hq).elim (fun z => by rw [z]; exact hr) (h2 q)⟩
abbrev s_fits_talk : Stmt := top 24
theorem sc_fits_talk : FnScope ["form", "value", "item"] ["form", "value"] (defScope s_fits_talk) := ⟨rfl, rfl, rfl, by decide +kernel, rfl, by decide +kernel, by decide +kernel⟩
def sp_fits_talk  : Sp := spD 2 (fun ds => ∃ rs es x, ds = [fD rs es, x] ∧ FormOk rs es ∧ Nz true x) (fun ds d => ∃ rs es x b, ds = [fD rs es, x] ∧ d = .bool b ∧ (b = true ↔ IsTalk rs x))
theorem d_fits_talk (T : Bl mg) (F : FunAt K mg "fits_talk" s_fits_talk)  (d_is_message : Df P w K mg base CX0 3 "is_message" ["form", "value"] [] sp_is_message) : Df P w K mg base CX0 4 "fits_talk" ["form", "value"] [] sp_fits_talk := by
  refine df_of F sc_fits_talk (spD_len rfl) (fun _ _ _ _ _ _ _ us hl => match us, hl with | [_, _], _ => rfl) fun f cdv A outer s H E hr => ?_
  refine ⟨_, (pss_one (ps_ret (pe_and (pe_callB call_isi (by rfl) T.isinstance_ (by rfl) (pa_cons (pv 1) (pa_cons (pe_bltn (v := .ty "list") (by rfl) T.list_ (by rfl) rfl) pa_nil))) (pe_one (pe_cmpR (op_eqNil hr.units) (pe_lc (own := [("item", 2)]) (g := (gName 2)) (tt := (tNot (tB (tCall sp_is_message [] E0 (tCons (tVar 0) (tCons (tVar 2) tNil)))))) (te := (tVar 2)) rfl sc_fits_talk.nd (pi_any (pv 1)) (blkOk_by (N := ["form", "value", "item"]) (sc := defScope s_fits_talk) (by decide +kernel)) (fun _ _ _ _ _ => (pg_name (i := 2) sc_fits_talk.nd rfl (Or.inl rfl))) (fun _ _ _ _ _ => (pts_one (pt_not (pt_val (pe_def (E := E0) d_is_message hr (by decide) pass0 (pa_cons (pv 0) (pa_cons (pv 2) pa_nil))))))) (fun _ _ _ _ _ => (pv 2))) (pe_lst pa_nil) (nomark _)))))), fun vs Q h => ?_⟩
  refine body_D (n := 2) (k := 1) rfl (fun ds hl ⟨rs, es, x, e, o, hx⟩ => ?_) vs H Q E h
  subst e
  walk_at "ws"
  refine iteB (fun h0 => ?_) fun h0 => ?_
  rotate_left
  · exact ⟨rs, es, x, _, rfl, rfl, ff fun ⟨ms, e, _⟩ => by rw [e] at h0; cases h0⟩
  obtain ⟨xs, rfl⟩ := isT_lst h0
  refine w_op (w_filD xs (fun x => !clb (IsMsg rs x)) rfl (line5 hx.lenL) (i_anyL (w_var rfl ⟨_, rfl, rfl, rfl⟩)) (fun z hz => ?_) ?_)
  · refine w_not (w_tB (w_call (w_cons (w_var rfl (w_cons (w_var rfl (w_nil ⟨rfl, ⟨_, _, _, rfl, o, hx.itemL hz⟩, ?_⟩)))))))
    rintro d ⟨rs', es', y, b, e, rfl, hb⟩
    simp only [List.cons.injEq, and_true] at e
    obtain ⟨e1, e2⟩ := e
    obtain ⟨e1, _⟩ := fD_inj e1
    subst e1
    subst e2
    refine ⟨_, rfl, ?_, rfl⟩
    rw [clb_eq hb]
  · refine w_lst (w_nil ⟨by decide, o_eqNil ⟨rs, es, _, _, rfl, rfl, ?_⟩⟩)
    rw [decide_eq_true_eq, List.filter_eq_nil_iff]
    constructor
    · intro h
      obtain ⟨ms, e, hm⟩ := msgs_ex (rs := rs) (xs := xs) fun x hx => clb_iff.mp (by simpa using h x hx)
      exact ⟨ms, by rw [e], hm⟩
    · rintro ⟨ms, e, hm⟩ x hx
      injection e with e
      rw [e] at hx
      obtain ⟨m, h, rfl⟩ := List.mem_map.mp hx
      rw [clb_t ⟨m, rfl, hm m h⟩]
      exact Bool.false_ne_true
end
end K81


namespace K81
open PySem PySem.Spec PyProof.Rows L2 DL ErX
open Evl (Ex)
local macro_rules | `(tactic| walk_at "sz") => `(tactic| first | assumption | (rw [sizeLine_eq]; simp only [List.length_cons, List.length_nil, List.length_append, List.length_map, List.length_replicate, List.length_range]; omega) | (rw [sizeLine_eq]; simp; done) | (rw [sizeLine_eq]; simp; omega) | omega)
local macro_rules | `(tactic| walk_at "sh") => `(tactic| first | assumption | exact shaped_int _ | rfl | (exact ty_shaped (by assumption)) | (decide +kernel))
local macro_rules | `(tactic| walk_at "w") => `(tactic| first
  | ((with_reducible refine' w_var ?hv ?_); (case hv => rfl))
  | (with_reducible refine s_seq ?_)
  | (with_reducible refine s_set ?_)
  | (with_reducible refine s_ret ?_)
  | (with_reducible refine s_if ?_)
  | (with_reducible refine s_next ?_)
  | (with_reducible refine x_seq ?_)
  | (with_reducible refine x_if ?_)
  | ((with_reducible refine' w_isi ?_ ?_); decide)
  | (with_reducible refine w_callB ?_)
  | (with_reducible refine w_op ?_)
  | (with_reducible refine w_cons ?_)
  | (with_reducible refine w_nil ?_)
  | (with_reducible refine w_int ?_)
  | (with_reducible refine w_str ?_)
  | (with_reducible refine w_bl ?_)
  | (with_reducible refine w_non ?_)
  | (with_reducible refine w_test ?_)
  | (with_reducible refine w_tB ?_)
  | (with_reducible refine w_and ?_)
  | (with_reducible refine w_or ?_)
  | (with_reducible refine w_not ?_)
  | (with_reducible refine w_andV ?_)
  | (with_reducible refine w_orV ?_)
  | (with_reducible refine w_notV ?_)
  | (with_reducible refine w_if ?_)
  | ((with_reducible refine' w_chain ?hh ?hv); (case hv => rfl))
  | (with_reducible refine w_lst ?_)
  | (with_reducible refine w_tup ?_)
  | (with_reducible refine w_dnew ?_)
  | (with_reducible refine o_addI ?_)
  | (with_reducible refine o_subI ?_)
  | (with_reducible refine o_ltI ?_)
  | (with_reducible refine o_leI ?_)
  | (with_reducible refine o_gtI ?_)
  | (with_reducible refine o_geI ?_)
  | (with_reducible refine o_ltS ?_)
  | (with_reducible refine o_leS ?_)
  | (with_reducible refine o_gtS ?_)
  | (with_reducible refine o_geS ?_)
  | (with_reducible refine o_eqS ?_)
  | (with_reducible refine o_neS ?_)
  | (with_reducible refine o_isN ?_)
  | (with_reducible refine o_notN ?_)
  | (with_reducible refine o_isB ?_)
  | (with_reducible refine c_lenL ?_)
  | (with_reducible refine c_lenT ?_)
  | (with_reducible refine c_int ?_)
  | (with_reducible refine c_intB ?_)
  | (with_reducible refine c_ord ?_)
  | (with_reducible refine c_tupL ?_)
  | (with_reducible refine c_listL ?_)
  | (with_reducible refine c_listT ?_)
  | ((with_reducible refine o_eq ?_ ?_ ?_); (walk_at "sh"); (walk_at "sh"))
  | ((with_reducible refine o_ne ?_ ?_ ?_); (walk_at "sh"); (walk_at "sh"))
  | ((with_reducible refine' o_ixL ?hv ?_); (case hv => rfl))
  | ((with_reducible refine' o_ixT ?hv ?_); (case hv => rfl))
  | ((with_reducible refine o_modI ?_ ?_); (walk_at "sz"))
  | ((with_reducible refine o_addL ?_ ?_); (walk_at "sz"))
  | ((with_reducible refine o_addS ?_ ?_); (walk_at "sz"))
  | ((with_reducible refine o_addT ?_ ?_); (walk_at "sz"))
  | ((with_reducible refine c_lenS ?_ ?_); (walk_at "sz"))
  | refine iteT ?_
  | refine iteF ?_
  | refine And.intro (show _ ≤ sizeLine by walk_at "sz") ?_
  | refine ⟨_, rfl, ?_⟩
  | (refine' o_ixT ?hv ?_; (case hv => rfl))
  | (refine' o_ixL ?hv ?_; (case hv => rfl))
  | refine w_call ?_
  | refine w_callR ?_)
local macro_rules | `(tactic| walk_at "ws") => `(tactic| repeat walk_at "w")

section
variable {P : Program} {w : World} {K : PySem.W.Frag} {mg : Str → Option Value} {base : Heap} {CF CX CT : Addr}
abbrev s_is_talk : Stmt := top 25
theorem sc_is_talk : FnScope ["form", "value"] ["form", "value"] (defScope s_is_talk) := ⟨rfl, rfl, rfl, by decide +kernel, rfl, by decide +kernel, by decide +kernel⟩
def sp_is_talk (CF : Addr) : Sp := spR 2 (fun ds => ∃ f x, ds = [f, x] ∧ Nz false f ∧ Nz true x) (fun ds d => ∃ rs es x b, ds = [fD rs es, x] ∧ FormOk rs es ∧ d = .bool b ∧ (b = true ↔ IsTalk rs x)) (fun ds C y => C = CF ∧ ∃ f x, ds = [f, x] ∧ ¬ IsForm f ∧ y = f)
theorem d_is_talk (T : Bl mg) (F : FunAt K mg "is_talk" s_is_talk)  (d_check_form : Df P w K mg base (L2.CX P w) 6 "check_form" ["form"] [] (sp_check_form CF)) (d_fits_talk : Df P w K mg base CX0 4 "fits_talk" ["form", "value"] [] sp_fits_talk) : Df P w K mg base (L2.CX P w) 7 "is_talk" ["form", "value"] [] (sp_is_talk CF) ∧ DfR P w K mg base (L2.CX P w) 7 "is_talk" ["form", "value"] (sp_is_talk CF) := by
  refine dfx_of2 F sc_is_talk (spR_len rfl) (fun _ _ _ _ _ _ _ us hl => match us, hl with | [_, _], _ => rfl) (fun _ _ _ _ _ _ ws hl => match ws, hl with | [_, _], _ => rfl) fun f cdv A outer s H E hr => ?_
  refine ⟨_, (pss_cons (ps_expr (pe_def (E := E) d_check_form hr (by decide) (passes_call (takes_of rfl rfl rfl rfl) fun _ _ _ _ h => h) (pa_cons (pv 0) pa_nil))) (pss_one (ps_ret (pe_def (E := E0) d_fits_talk hr (by decide) pass0 (pa_cons (pv 0) (pa_cons (pv 1) pa_nil)))))), fun vs Q h => ?_⟩
  refine body_R (n := 2) (k := 0) rfl (fun ds hl ⟨f, x, e, hf, hx⟩ => ?_) vs H Q h
  subst e
  refine x_seq (x_call rfl (w_cons (w_var rfl (w_nil ⟨rfl, ⟨_, rfl, hf⟩, ?_, ?_⟩))))
  · rintro d ⟨f', e, rs, es, rfl, o⟩
    cases e
    refine x_of (s_ret (w_call (w_cons (w_var rfl (w_cons (w_var rfl (w_nil ⟨rfl, ⟨_, _, _, rfl, o, hx⟩, ?_⟩)))))))
    rintro d ⟨rs', es', y, b, e, rfl, hb⟩
    simp only [List.cons.injEq, and_true] at e
    obtain ⟨e1, e2⟩ := e
    obtain ⟨e1, e3⟩ := fD_inj e1
    subst e1
    subst e2
    subst e3
    exact ⟨rs, es, _, b, rfl, o, rfl, hb⟩
  · rintro C y ⟨rfl, f', e, hn, rfl⟩
    cases e
    exact ⟨rfl, _, _, rfl, hn, rfl⟩
abbrev s_check_talk : Stmt := top 26
theorem sc_check_talk : FnScope ["form", "talk"] ["form", "talk"] (defScope s_check_talk) := ⟨rfl, rfl, rfl, by decide +kernel, rfl, by decide +kernel, by decide +kernel⟩
def sp_check_talk (CT : Addr) : Sp := spR 2 (fun ds => ∃ rs es x, ds = [fD rs es, x] ∧ FormOk rs es ∧ Nz true x) (fun ds _ => ∃ rs es x, ds = [fD rs es, x] ∧ IsTalk rs x) (fun ds C y => C = CT ∧ ∃ rs es x, ds = [fD rs es, x] ∧ ¬ IsTalk rs x ∧ y = x)
theorem d_check_talk (T : Bl mg) (R : Er P K mg CF CX CT) (F : FunAt K mg "check_talk" s_check_talk)  (d_fits_talk : Df P w K mg base CX0 4 "fits_talk" ["form", "value"] [] sp_fits_talk) : Df P w K mg base (L2.CX P w) 5 "check_talk" ["form", "talk"] [] (sp_check_talk CT) := by
  obtain ⟨f_InvalidTalk, E_InvalidTalk⟩ := R.InvalidTalk
  refine dfx_of F sc_check_talk (spR_len rfl) (fun _ _ _ _ _ _ _ us hl => match us, hl with | [_, _], _ => rfl) fun f cdv A outer s H E hr => ?_
  refine ⟨_, (pss_one (ps_if (pt_not (pt_val (pe_def (E := E0) d_fits_talk hr (by decide) pass0 (pa_cons (pv 0) (pa_cons (pv 1) pa_nil))))) (pss_one (ps_raiseE rfl E_InvalidTalk (hr.mono (by decide)) (takes_of rfl rfl rfl rfl) (pa_cons (pv 1) pa_nil))) pss_nil)), fun vs Q h => ?_⟩
  refine body_R (n := 2) (k := 0) rfl (fun ds hl ⟨rs, es, x, e, o, hx⟩ => ?_) vs H Q h
  subst e
  refine x_if (w_not (w_tB (w_call (w_cons (w_var rfl (w_cons (w_var rfl (w_nil ⟨rfl, ⟨_, _, _, rfl, o, hx⟩, ?_⟩))))))))
  rintro d ⟨rs', es', x', b, e, rfl, hb⟩
  simp only [List.cons.injEq, and_true] at e
  obtain ⟨e1, e2⟩ := e
  obtain ⟨e1, e3⟩ := fD_inj e1
  subst e1
  subst e2
  refine ⟨_, rfl, iteN (fun h => ?_) fun h => ?_⟩
  · subst h
    exact x_raise (w_cons (w_var rfl (w_nil ⟨x, rfl, rfl, rs, es, x, rfl, fun z => Bool.false_ne_true (hb.mpr z), rfl⟩)))
  · exact x_of (s_next ⟨rs, es, x, rfl, hb.mp h⟩)
/-! ### escapes, writing -/
def escT (es : List (Nat × Str)) (c : Nat) : Str := match es.find? fun e => decide (e.1 = c) with
  | some e => e.2
  | none => sg c
def outT (es : List (Nat × Str)) (z : Str) : Str := Txt.join "" (z.cps.toList.map (escT es))
abbrev s_escape_of : Stmt := top 27
theorem sc_escape_of : FnScope ["form", "sign", "one", "text"] ["form", "sign"] (defScope s_escape_of) := ⟨rfl, rfl, rfl, by decide +kernel, rfl, by decide +kernel, by decide +kernel⟩
def sp_escape_of  : Sp := spD 2 (fun ds => ∃ rs es c, ds = [fD rs es, .str (sg c)] ∧ FormOk rs es ∧ c < 0x110000) (fun ds d => ∃ rs es c, ds = [fD rs es, .str (sg c)] ∧ d = .str (escT es c))
theorem d_escape_of (T : Bl mg) (F : FunAt K mg "escape_of" s_escape_of)   : Df P w K mg base CX0 1 "escape_of" ["form", "sign"] [] sp_escape_of := by
  refine df_of F sc_escape_of (spD_len rfl) (fun _ _ _ _ _ _ _ us hl => match us, hl with | [_, _], _ => rfl) fun f cdv A outer s H E hr => ?_
  refine ⟨_, (pss_cons (ps_for PassesOwn.never rfl (pi_any (pe_ix ix_seq (pv 0) pe_int (fun _ _ => rfl))) (pg_tup rfl (pgs_cons (pg_name (i := 2) sc_escape_of.nd rfl (Or.inl rfl)) (pgs_cons (pg_name (i := 3) sc_escape_of.nd rfl (Or.inl rfl)) pgs_nil))) (pss_one (ps_if (pt_cmpR (op_eqX hr.units) (pv 2) (pv 1) (nomark _)) (pss_one (ps_ret (pv 3))) pss_nil))) (pss_one (ps_ret (pv 1)))), fun vs Q h => ?_⟩
  refine body_D (n := 2) (k := 2) rfl (fun ds hl ⟨rs, es, c, e, o, hc⟩ => ?_) vs H Q E h
  subst e
  have shS : ∀ c, c < 0x110000 → SeqAt.shaped (.str (sg c)) = true := fun c hc => (Nz.of (b := false) (Sm.str (W := 1) (z := sg c) (fun y hy => by
    have : y = c := by simpa [sg] using hy
    rw [this]
    exact hc) (Nat.le_refl 1)) (by decide) (by decide)).shaped
  refine s_seq (s_for (i_anyL (w_op (w_var rfl (w_int (o_ixT (d := .list (es.map eD)) rfl ?_))))))
  refine ⟨_, rfl, fun i ρ => (∃ e2 e3, ρ = [.dat (fD rs es), .dat (.str (sg c)), e2, e3]) ∧ ∀ r ∈ es.take i, r.1 ≠ c, ⟨⟨.no, .no, rfl⟩, by simp⟩, ?_, ?_⟩
  · rintro ρ ⟨⟨e2, e3, rfl⟩, h⟩
    rw [List.length_map, List.take_length] at h
    refine s_ret (w_var rfl ⟨rs, es, c, rfl, ?_⟩)
    have : es.find? (fun e => decide (e.1 = c)) = none := List.find?_eq_none.mpr fun r hr => by simpa using h r hr
    rw [escT, this]
  · rintro i d ρ hd ⟨⟨e2, e3, rfl⟩, h⟩
    rw [List.getElem?_map] at hd
    cases q : es[i]? with
    | none =>
      rw [q] at hd
      cases hd
    | some r =>
      rw [q] at hd
      cases hd
      have hr := List.mem_of_getElem? q
      have rl := okC_lt (o.he r hr).1
      refine g_tup rfl (gs_cons (g_name (gs_cons (g_name (gs_nil ?_)))))
      refine s_if (w_test (w_op (w_var rfl (w_var rfl (o_eq (shS _ (by omega)) (shS _ hc) ⟨_, rfl, ?_⟩)))))
      rw [eqv_str, sg, sg, decide_eq_decide.mpr (Iff.of_eq str_inj)]
      refine iteB (fun h0 => ?_) fun h0 => ?_
      · rw [decide_eq_true_eq] at h0
        refine s_ret (w_var rfl ⟨rs, es, c, rfl, ?_⟩)
        have hi : i < es.length := (List.getElem?_eq_some_iff.mp q).1
        have : es.find? (fun e => decide (e.1 = c)) = some r := by
          have sp : es = es.take i ++ r :: es.drop (i + 1) := by
            have e := List.getElem?_eq_some_iff.mp q
            rw [← e.2]
            simp
          rw [sp, List.find?_append, List.find?_eq_none.mpr (fun x hx => by simpa using h x hx), List.find?_cons_of_pos (by simpa using h0)]
          rfl
        rw [escT, this]
      · rw [decide_eq_false_iff_not] at h0
        refine s_next ⟨⟨_, _, rfl⟩, fun x hx => ?_⟩
        rw [List.take_succ, q] at hx
        rcases List.mem_append.mp hx with y | y
        · exact h x y
        · have : x = r := by simpa using y
          rw [this]
          exact h0
theorem escT_len {rs : List (Str × Str × Str)} {es : List (Nat × Str)} (o : FormOk rs es) (c : Nat) : (escT es c).length ≤ 4 := by
  unfold escT
  split
  · rename_i e q
    exact (o.he e (List.mem_of_find?_eq_some q)).2.2.2
  · show 1 ≤ 4
    decide
theorem sum_len4 {f : Nat → Str} (h : ∀ c, (f c).length ≤ 4) : ∀ l : List Nat, ((l.map f).map (·.length)).sum ≤ 4 * l.length
  | [] => by simp
  | c :: l => by
    have := h c
    have := sum_len4 h l
    simp only [List.map_cons, List.sum_cons, List.length_cons]
    omega
abbrev s_led_out : Stmt := top 28
theorem sc_led_out : FnScope ["form", "text", "sign"] ["form", "text"] (defScope s_led_out) := ⟨rfl, rfl, rfl, by decide +kernel, rfl, by decide +kernel, by decide +kernel⟩
def sp_led_out  : Sp := spD 2 (fun ds => ∃ rs es z, ds = [fD rs es, .str z] ∧ FormOk rs es ∧ Nz true (.str z)) (fun ds d => ∃ rs es z, ds = [fD rs es, .str z] ∧ d = .str (outT es z))
theorem d_led_out (T : Bl mg) (F : FunAt K mg "led_out" s_led_out)  (d_escape_of : Df P w K mg base CX0 1 "escape_of" ["form", "sign"] [] sp_escape_of) : Df P w K mg base CX0 2 "led_out" ["form", "text"] [] sp_led_out := by
  refine df_of F sc_led_out (spD_len rfl) (fun _ _ _ _ _ _ _ us hl => match us, hl with | [_, _], _ => rfl) fun f cdv A outer s H E hr => ?_
  refine ⟨_, (pss_one (ps_ret (pe_join pe_str (pe_lc (own := [("sign", 2)]) (g := (gName 2)) (tt := tYes) (te := (tCall sp_escape_of [] E0 (tCons (tVar 0) (tCons (tVar 2) tNil)))) rfl sc_led_out.nd (pi_any (pv 1)) (blkOk_by (N := ["form", "text", "sign"]) (sc := defScope s_led_out) (by decide +kernel)) (fun _ _ _ _ _ => (pg_name (i := 2) sc_led_out.nd rfl (Or.inl rfl))) (fun _ _ _ _ _ => pts_nil) (fun _ _ _ _ _ => (pe_def (E := E0) d_escape_of hr (by decide) pass0 (pa_cons (pv 0) (pa_cons (pv 2) pa_nil)))))))), fun vs Q h => ?_⟩
  refine body_D (n := 2) (k := 1) rfl (fun ds hl ⟨rs, es, z, e, o, hz⟩ => ?_) vs H Q E h
  subst e
  have hl := hz.lenS
  have zc : ∀ c ∈ z.cps.toList, c < 0x110000 := fun c hc => by
    have := hz.ok
    simp only [okD, Bool.and_eq_true, List.all_eq_true, decide_eq_true_eq, PyData.strOk, ← Array.all_toList] at this
    exact this.1 c hc
  refine s_ret (w_join (w_str ⟨rfl, w_mapL z.cps.toList (fun c => .str (sg c)) PyData.str (escT es) rfl (line5 (by rw [Array.length_toList]; exact hl)) (i_anyS (w_var rfl ⟨_, rfl, rfl, rfl⟩)) (fun c hc => ?_) ?_⟩))
  · refine w_call (w_cons (w_var rfl (w_cons (w_var rfl (w_nil ⟨rfl, ⟨_, _, _, rfl, o, zc c hc⟩, ?_⟩)))))
    rintro d ⟨rs', es', c', e, rfl⟩
    simp only [List.cons.injEq, and_true, PyData.str.injEq, sg, str_inj] at e
    obtain ⟨e1, e2⟩ := e
    obtain ⟨_, e3⟩ := fD_inj e1
    subst e2
    subst e3
    exact ⟨rfl, rfl⟩
  · refine ⟨z.cps.toList.map (escT es), rfl, ?_, rs, es, z, rfl, rfl⟩
    have := sum_len4 (escT_len o) z.cps.toList
    have e0 : ("" : Str).length = 0 := rfl
    have e1 : z.cps.toList.length = z.length := by rw [Array.length_toList]; rfl
    rw [e0, Nat.mul_zero]
    omega
end
end K81


namespace K81
open PySem PySem.Spec PyProof.Rows L2 DL ErX
open Evl (Ex)
local macro_rules | `(tactic| walk_at "sz") => `(tactic| first | assumption | (rw [sizeLine_eq]; simp only [List.length_cons, List.length_nil, List.length_append, List.length_map, List.length_replicate, List.length_range]; omega) | (rw [sizeLine_eq]; simp; done) | (rw [sizeLine_eq]; simp; omega) | omega)
local macro_rules | `(tactic| walk_at "sh") => `(tactic| first | assumption | exact shaped_int _ | rfl | (exact ty_shaped (by assumption)) | (decide +kernel))
local macro_rules | `(tactic| walk_at "w") => `(tactic| first
  | ((with_reducible refine' w_var ?hv ?_); (case hv => rfl))
  | (with_reducible refine s_seq ?_)
  | (with_reducible refine s_set ?_)
  | (with_reducible refine s_ret ?_)
  | (with_reducible refine s_if ?_)
  | (with_reducible refine s_next ?_)
  | (with_reducible refine x_seq ?_)
  | (with_reducible refine x_if ?_)
  | ((with_reducible refine' w_isi ?_ ?_); decide)
  | (with_reducible refine w_callB ?_)
  | (with_reducible refine w_op ?_)
  | (with_reducible refine w_cons ?_)
  | (with_reducible refine w_nil ?_)
  | (with_reducible refine w_int ?_)
  | (with_reducible refine w_str ?_)
  | (with_reducible refine w_bl ?_)
  | (with_reducible refine w_non ?_)
  | (with_reducible refine w_test ?_)
  | (with_reducible refine w_tB ?_)
  | (with_reducible refine w_and ?_)
  | (with_reducible refine w_or ?_)
  | (with_reducible refine w_not ?_)
  | (with_reducible refine w_andV ?_)
  | (with_reducible refine w_orV ?_)
  | (with_reducible refine w_notV ?_)
  | (with_reducible refine w_if ?_)
  | ((with_reducible refine' w_chain ?hh ?hv); (case hv => rfl))
  | (with_reducible refine w_lst ?_)
  | (with_reducible refine w_tup ?_)
  | (with_reducible refine w_dnew ?_)
  | (with_reducible refine o_addI ?_)
  | (with_reducible refine o_subI ?_)
  | (with_reducible refine o_ltI ?_)
  | (with_reducible refine o_leI ?_)
  | (with_reducible refine o_gtI ?_)
  | (with_reducible refine o_geI ?_)
  | (with_reducible refine o_ltS ?_)
  | (with_reducible refine o_leS ?_)
  | (with_reducible refine o_gtS ?_)
  | (with_reducible refine o_geS ?_)
  | (with_reducible refine o_eqS ?_)
  | (with_reducible refine o_neS ?_)
  | (with_reducible refine o_isN ?_)
  | (with_reducible refine o_notN ?_)
  | (with_reducible refine o_isB ?_)
  | (with_reducible refine c_lenL ?_)
  | (with_reducible refine c_lenT ?_)
  | (with_reducible refine c_int ?_)
  | (with_reducible refine c_intB ?_)
  | (with_reducible refine c_ord ?_)
  | (with_reducible refine c_tupL ?_)
  | (with_reducible refine c_listL ?_)
  | (with_reducible refine c_listT ?_)
  | ((with_reducible refine o_eq ?_ ?_ ?_); (walk_at "sh"); (walk_at "sh"))
  | ((with_reducible refine o_ne ?_ ?_ ?_); (walk_at "sh"); (walk_at "sh"))
  | ((with_reducible refine' o_ixL ?hv ?_); (case hv => rfl))
  | ((with_reducible refine' o_ixT ?hv ?_); (case hv => rfl))
  | ((with_reducible refine o_modI ?_ ?_); (walk_at "sz"))
  | ((with_reducible refine o_addL ?_ ?_); (walk_at "sz"))
  | ((with_reducible refine o_addS ?_ ?_); (walk_at "sz"))
  | ((with_reducible refine o_addT ?_ ?_); (walk_at "sz"))
  | ((with_reducible refine c_lenS ?_ ?_); (walk_at "sz"))
  | refine iteT ?_
  | refine iteF ?_
  | refine And.intro (show _ ≤ sizeLine by walk_at "sz") ?_
  | refine ⟨_, rfl, ?_⟩
  | (refine' o_ixT ?hv ?_; (case hv => rfl))
  | (refine' o_ixL ?hv ?_; (case hv => rfl))
  | refine w_call ?_
  | refine w_callR ?_)
local macro_rules | `(tactic| walk_at "ws") => `(tactic| repeat walk_at "w")

section
variable {P : Program} {w : World} {K : PySem.W.Frag} {mg : Str → Option Value} {base : Heap} {CF CX CT : Addr}
abbrev s_escaped : Stmt := top 29
theorem sc_escaped : FnScope ["form", "text"] ["form", "text"] (defScope s_escaped) := ⟨rfl, rfl, rfl, by decide +kernel, rfl, by decide +kernel, by decide +kernel⟩
def sp_escaped (CF : Addr) (CX : Addr) : Sp := spR 2 (fun ds => ∃ f x, ds = [f, x] ∧ Nz false f ∧ Nz true x) (fun ds d => ∃ rs es z, ds = [fD rs es, .str z] ∧ FormOk rs es ∧ AllC z ∧ d = .str (outT es z)) (fun ds C y => (C = CF ∧ ∃ f x, ds = [f, x] ∧ ¬ IsForm f ∧ y = f) ∨ (C = CX ∧ ∃ rs es x, ds = [fD rs es, x] ∧ FormOk rs es ∧ ¬ IsTx x ∧ y = x))
theorem d_escaped (T : Bl mg) (F : FunAt K mg "escaped" s_escaped)  (d_check_form : Df P w K mg base (L2.CX P w) 6 "check_form" ["form"] [] (sp_check_form CF)) (d_check_text : Df P w K mg base (L2.CX P w) 3 "check_text" ["text"] [] (sp_check_text CX)) (d_led_out : Df P w K mg base CX0 2 "led_out" ["form", "text"] [] sp_led_out) : Df P w K mg base (L2.CX P w) 7 "escaped" ["form", "text"] [] (sp_escaped CF CX) ∧ DfR P w K mg base (L2.CX P w) 7 "escaped" ["form", "text"] (sp_escaped CF CX) := by
  refine dfx_of2 F sc_escaped (spR_len rfl) (fun _ _ _ _ _ _ _ us hl => match us, hl with | [_, _], _ => rfl) (fun _ _ _ _ _ _ ws hl => match ws, hl with | [_, _], _ => rfl) fun f cdv A outer s H E hr => ?_
  refine ⟨_, (pss_cons (ps_expr (pe_def (E := E) d_check_form hr (by decide) (passes_call (takes_of rfl rfl rfl rfl) fun _ _ _ _ h => h) (pa_cons (pv 0) pa_nil))) (pss_cons (ps_expr (pe_def (E := E) d_check_text hr (by decide) (passes_call (takes_of rfl rfl rfl rfl) fun _ _ _ _ h => h) (pa_cons (pv 1) pa_nil))) (pss_one (ps_ret (pe_def (E := E0) d_led_out hr (by decide) pass0 (pa_cons (pv 0) (pa_cons (pv 1) pa_nil))))))), fun vs Q h => ?_⟩
  refine body_R (n := 2) (k := 0) rfl (fun ds hl ⟨f, x, e, hf, hx⟩ => ?_) vs H Q h
  subst e
  refine x_seq (x_call rfl (w_cons (w_var rfl (w_nil ⟨rfl, ⟨_, rfl, hf⟩, ?_, ?_⟩))))
  · rintro d ⟨f', e, rs, es, rfl, o⟩
    cases e
    refine x_seq (x_call rfl (w_cons (w_var rfl (w_nil ⟨rfl, ⟨_, rfl, hx⟩, ?_, ?_⟩))))
    · rintro d ⟨x', e, z, rfl, hz⟩
      cases e
      refine x_of (s_ret (w_call (w_cons (w_var rfl (w_cons (w_var rfl (w_nil ⟨rfl, ⟨_, _, _, rfl, o, hx⟩, ?_⟩)))))))
      rintro d ⟨rs', es', y, e, rfl⟩
      simp only [List.cons.injEq, and_true, PyData.str.injEq] at e
      obtain ⟨e1, e2⟩ := e
      obtain ⟨e1, e3⟩ := fD_inj e1
      subst e2
      subst e3
      exact ⟨rs, es, _, rfl, o, hz, rfl⟩
    · rintro C y ⟨rfl, x', e, hn, rfl⟩
      cases e
      exact .inr ⟨rfl, rs, es, _, rfl, o, hn, rfl⟩
  · rintro C y ⟨rfl, f', e, hn, rfl⟩
    cases e
    exact .inl ⟨rfl, _, _, rfl, hn, rfl⟩
def rl (rs : List (Str × Str × Str)) (n : Str) : Str × Str × Str := (roleOf rs n).getD ("", "", "")
def addM (rs : List (Str × Str × Str)) (es : List (Nat × Str)) (s : Str) (m : Str × Str) : Str := s ++ (rl rs m.1).2.1 ++ outT es m.2 ++ (rl rs m.1).2.2
/-- the writing of a talk -/
def wrT (rs : List (Str × Str × Str)) (es : List (Nat × Str)) (ms : List (Str × Str)) : Str := ms.foldl (addM rs es) ""
def roomM (ms : List (Str × Str)) : Nat := (ms.map fun m => 24 + 4 * m.2.length).sum
theorem outT_len {rs : List (Str × Str × Str)} {es : List (Nat × Str)} (o : FormOk rs es) (z : Str) : (outT es z).length ≤ 4 * z.length := by
  unfold outT
  rw [TL.join_eq]
  have h := StrLaws.join_length_le "" (z.cps.toList.map (escT es))
  have h2 := sum_len4 (escT_len o) z.cps.toList
  have e0 : ("" : Str).length = 0 := rfl
  have e1 : z.cps.toList.length = z.length := by rw [Array.length_toList]; rfl
  rw [e0, Nat.mul_zero] at h
  omega
theorem roomM_wt : ∀ ms : List (Str × Str), roomM ms ≤ 24 * PyData.weightAll (ms.map mD)
  | [] => by simp [roomM, PyData.weightAll]
  | m :: ms => by
    have ih := roomM_wt ms
    have e : m.2.cps.size = m.2.length := rfl
    simp only [roomM, List.map_cons, List.sum_cons, PyData.weightAll, mD, PyData.weight] at ih ⊢
    omega
theorem wrT_snoc (rs : List (Str × Str × Str)) (es : List (Nat × Str)) (ms : List (Str × Str)) (m : Str × Str) : wrT rs es (ms ++ [m]) = addM rs es (wrT rs es ms) m := by
  unfold wrT
  rw [List.foldl_append]
  rfl
theorem rl_of {rs : List (Str × Str × Str)} {n : Str} (h : n ∈ rs.map (·.1)) : ∃ r, roleOf rs n = some r ∧ rl rs n = r ∧ r ∈ rs := by
  obtain ⟨r, hr⟩ := roleOf_some.mpr h
  exact ⟨r, hr, by rw [rl, hr]; rfl, List.mem_of_find?_eq_some hr⟩
theorem addM_len {rs : List (Str × Str × Str)} {es : List (Nat × Str)} (o : FormOk rs es) {s : Str} {m : Str × Str} (h : MsgOk rs m) : (addM rs es s m).length ≤ s.length + (24 + 4 * m.2.length) := by
  obtain ⟨r, _, e, hr⟩ := rl_of h.1
  have h1 := (o.hr r hr).2.1.2.2
  have h2 := (o.hr r hr).2.2.2.2
  have h3 := outT_len o m.2
  unfold addM
  rw [e, Str.length_append, Str.length_append, Str.length_append]
  omega
theorem wrT_len {rs : List (Str × Str × Str)} {es : List (Nat × Str)} (o : FormOk rs es) : ∀ {ms : List (Str × Str)} {s : Str}, (∀ m ∈ ms, MsgOk rs m) → (ms.foldl (addM rs es) s).length ≤ s.length + roomM ms
  | [], s, _ => Nat.le_add_right _ _
  | m :: ms, s, h => by
    have ih := wrT_len o (ms := ms) (s := addM rs es s m) fun x hx => h x (List.mem_cons_of_mem _ hx)
    have := addM_len o (s := s) (h m List.mem_cons_self)
    simp only [List.foldl_cons, roomM, List.map_cons, List.sum_cons] at ih ⊢
    omega
theorem roomM_take (ms : List (Str × Str)) (i : Nat) : roomM (ms.take i) ≤ roomM ms := by
  have e : roomM ms = roomM (ms.take i) + roomM (ms.drop i) := by
    unfold roomM
    rw [← List.sum_append, ← List.map_append, List.take_append_drop]
  omega
abbrev s_writing : Stmt := top 30
theorem sc_writing : FnScope ["form", "talk", "found", "name", "content", "role"] ["form", "talk"] (defScope s_writing) := ⟨rfl, rfl, rfl, by decide +kernel, rfl, by decide +kernel, by decide +kernel⟩
def sp_writing  : Sp := spD 2 (fun ds => ∃ (rs : List (Str × Str × Str)) (es : List (Nat × Str)) (ms : List (Str × Str)), ds = [fD rs es, .list (ms.map mD)] ∧ FormOk rs es ∧ (∀ m ∈ ms, MsgOk rs m) ∧ Nz true (.list (ms.map mD))) (fun ds d => ∃ (rs : List (Str × Str × Str)) (es : List (Nat × Str)) (ms : List (Str × Str)), ds = [fD rs es, .list (ms.map mD)] ∧ d = .str (wrT rs es ms))
theorem d_writing (T : Bl mg) (F : FunAt K mg "writing" s_writing)  (d_led_out : Df P w K mg base CX0 2 "led_out" ["form", "text"] [] sp_led_out) (d_role_of : Df P w K mg base CX0 1 "role_of" ["form", "name"] [] sp_role_of) : Df P w K mg base CX0 3 "writing" ["form", "talk"] [] sp_writing := by
  refine df_of F sc_writing (spD_len rfl) (fun _ _ _ _ _ _ _ us hl => match us, hl with | [_, _], _ => rfl) fun f cdv A outer s H E hr => ?_
  refine ⟨_, (pss_cons (ps_set (i := 2) sc_writing.nd rfl (Or.inl rfl) pe_str) (pss_cons (ps_for PassesOwn.never rfl (pi_any (pv 1)) (pg_tup rfl (pgs_cons (pg_name (i := 3) sc_writing.nd rfl (Or.inl rfl)) (pgs_cons (pg_name (i := 4) sc_writing.nd rfl (Or.inl rfl)) pgs_nil))) (pss_cons (ps_set (i := 5) sc_writing.nd rfl (Or.inl rfl) (pe_def (E := E0) d_role_of hr (by decide) pass0 (pa_cons (pv 0) (pa_cons (pv 3) pa_nil)))) (pss_one (ps_set (i := 2) sc_writing.nd rfl (Or.inl rfl) (pe_op op_addX (pe_op op_addX (pe_op op_addX (pv 2) (pe_ix ix_seq (pv 5) pe_int (fun _ _ => rfl))) (pe_def (E := E0) d_led_out hr (by decide) pass0 (pa_cons (pv 0) (pa_cons (pv 4) pa_nil)))) (pe_ix ix_seq (pv 5) pe_int (fun _ _ => rfl))))))) (pss_one (ps_ret (pv 2))))), fun vs Q h => ?_⟩
  refine body_D (n := 2) (k := 4) rfl (fun ds hl ⟨rs, es, ms, e, o, hm, hz⟩ => ?_) vs H Q E h
  subst e
  have room : roomM ms ≤ 2400000 := by
    have h := roomM_wt ms
    have w := hz.wt
    simp only [PyData.weight] at w
    omega
  refine s_seq (s_set (w_str (s_seq (s_for (i_anyL (w_var rfl ?_))))))
  refine ⟨_, rfl, fun i ρ => ∃ e3 e4 e5, ρ = [.dat (fD rs es), .dat (.list (ms.map mD)), .dat (.str (wrT rs es (ms.take i))), e3, e4, e5], ⟨.no, .no, .no, rfl⟩, ?_, ?_⟩
  · rintro ρ ⟨e3, e4, e5, rfl⟩
    rw [List.length_map, List.take_length]
    exact s_ret (w_var rfl ⟨rs, es, ms, rfl, rfl⟩)
  · rintro i d ρ hd ⟨e3, e4, e5, rfl⟩
    rw [List.getElem?_map] at hd
    cases q : ms[i]? with
    | none =>
      rw [q] at hd
      cases hd
    | some m =>
      rw [q] at hd
      cases hd
      have hmm := List.mem_of_getElem? q
      have hmz : Nz true (mD m) := hz.itemL (List.mem_map.mpr ⟨m, hmm, rfl⟩)
      have hn : Nz true (.str m.1) := hmz.itemT (by simp)
      have hc : Nz true (.str m.2) := hmz.itemT (by simp)
      obtain ⟨r, hr, er, hrm⟩ := rl_of (hm m hmm).1
      have l0 := wrT_len o (s := "") (ms := ms.take i) fun x hx => hm x (List.mem_of_mem_take hx)
      have l1 := roomM_take ms i
      have l2 := (o.hr r hrm).2.1.2.2
      have l3 := (o.hr r hrm).2.2.2.2
      have l4 := outT_len o m.2
      have l5 := hc.lenS
      have l6 : (wrT rs es (ms.take i)).length ≤ 2400000 := by
        have e0 : ("" : Str).length = 0 := rfl
        unfold wrT
        omega
      refine g_tup rfl (gs_cons (g_name (gs_cons (g_name (gs_nil ?_)))))
      refine s_seq (s_set (w_call (w_cons (w_var rfl (w_cons (w_var rfl (w_nil ⟨rfl, ⟨_, _, _, rfl, o, hn⟩, ?_⟩)))))))
      rintro d ⟨rs', es', n', e, rfl⟩
      simp only [List.cons.injEq, and_true, PyData.str.injEq] at e
      obtain ⟨e1, e2⟩ := e
      obtain ⟨e1, _⟩ := fD_inj e1
      subst e1
      subst e2
      rw [hr]
      refine s_set (w_op (w_op (w_op (w_var rfl (w_op (w_var rfl (w_int (o_ixT (d := .str r.2.1) rfl (o_addS (by rw [sizeLine_eq]; omega) (w_call (w_cons (w_var rfl (w_cons (w_var rfl (w_nil ⟨rfl, ⟨_, _, _, rfl, o, hc⟩, ?_⟩)))))))))))))))
      rintro d ⟨rs', es', n', e, rfl⟩
      simp only [List.cons.injEq, and_true, PyData.str.injEq] at e
      obtain ⟨e1, e2⟩ := e
      obtain ⟨_, e1⟩ := fD_inj e1
      subst e1
      subst e2
      refine o_addS (by rw [sizeLine_eq, Str.length_append]; omega) (w_op (w_var rfl (w_int (o_ixT (d := .str r.2.2) rfl (o_addS (by rw [sizeLine_eq, Str.length_append, Str.length_append]; omega) ?_)))))
      have e' : wrT rs es (ms.take (i + 1)) = wrT rs es (ms.take i) ++ r.2.1 ++ outT es m.2 ++ r.2.2 := by
        rw [List.take_succ, q]
        exact (wrT_snoc rs es _ m).trans (by rw [addM, er])
      refine ⟨.dat (.str m.1), .dat (.str m.2), .dat (optR (some r)), ?_⟩
      rw [e']
      rfl
abbrev s_written_talk : Stmt := top 31
theorem sc_written_talk : FnScope ["form", "talk"] ["form", "talk"] (defScope s_written_talk) := ⟨rfl, rfl, rfl, by decide +kernel, rfl, by decide +kernel, by decide +kernel⟩
def sp_written_talk (CF : Addr) (CT : Addr) : Sp := spR 2 (fun ds => ∃ f x, ds = [f, x] ∧ Nz false f ∧ Nz true x) (fun ds d => ∃ (rs : List (Str × Str × Str)) (es : List (Nat × Str)) (ms : List (Str × Str)), ds = [fD rs es, .list (ms.map mD)] ∧ FormOk rs es ∧ (∀ m ∈ ms, MsgOk rs m) ∧ d = .str (wrT rs es ms)) (fun ds C y => (C = CF ∧ ∃ f x, ds = [f, x] ∧ ¬ IsForm f ∧ y = f) ∨ (C = CT ∧ ∃ rs es x, ds = [fD rs es, x] ∧ FormOk rs es ∧ ¬ IsTalk rs x ∧ y = x))
theorem d_written_talk (T : Bl mg) (F : FunAt K mg "written_talk" s_written_talk)  (d_check_form : Df P w K mg base (L2.CX P w) 6 "check_form" ["form"] [] (sp_check_form CF)) (d_check_talk : Df P w K mg base (L2.CX P w) 5 "check_talk" ["form", "talk"] [] (sp_check_talk CT)) (d_writing : Df P w K mg base CX0 3 "writing" ["form", "talk"] [] sp_writing) : Df P w K mg base (L2.CX P w) 7 "written_talk" ["form", "talk"] [] (sp_written_talk CF CT) ∧ DfR P w K mg base (L2.CX P w) 7 "written_talk" ["form", "talk"] (sp_written_talk CF CT) := by
  refine dfx_of2 F sc_written_talk (spR_len rfl) (fun _ _ _ _ _ _ _ us hl => match us, hl with | [_, _], _ => rfl) (fun _ _ _ _ _ _ ws hl => match ws, hl with | [_, _], _ => rfl) fun f cdv A outer s H E hr => ?_
  refine ⟨_, (pss_cons (ps_expr (pe_def (E := E) d_check_form hr (by decide) (passes_call (takes_of rfl rfl rfl rfl) fun _ _ _ _ h => h) (pa_cons (pv 0) pa_nil))) (pss_cons (ps_expr (pe_def (E := E) d_check_talk hr (by decide) (passes_call (takes_of rfl rfl rfl rfl) fun _ _ _ _ h => h) (pa_cons (pv 0) (pa_cons (pv 1) pa_nil)))) (pss_one (ps_ret (pe_def (E := E0) d_writing hr (by decide) pass0 (pa_cons (pv 0) (pa_cons (pv 1) pa_nil))))))), fun vs Q h => ?_⟩
  refine body_R (n := 2) (k := 0) rfl (fun ds hl ⟨f, x, e, hf, hx⟩ => ?_) vs H Q h
  subst e
  refine x_seq (x_call rfl (w_cons (w_var rfl (w_nil ⟨rfl, ⟨_, rfl, hf⟩, ?_, ?_⟩))))
  · rintro d ⟨f', e, rs, es, rfl, o⟩
    cases e
    refine x_seq (x_call rfl (w_cons (w_var rfl (w_cons (w_var rfl (w_nil ⟨rfl, ⟨_, _, _, rfl, o, hx⟩, ?_, ?_⟩))))))
    · rintro d ⟨rs', es', x', e, ms, rfl, hm⟩
      simp only [List.cons.injEq, and_true] at e
      obtain ⟨e1, e2⟩ := e
      obtain ⟨e1, e3⟩ := fD_inj e1
      subst e1
      subst e2
      subst e3
      refine x_of (s_ret (w_call (w_cons (w_var rfl (w_cons (w_var rfl (w_nil ⟨rfl, ⟨_, _, _, rfl, o, hm, hx⟩, ?_⟩)))))))
      rintro d ⟨rs', es', ms', e, rfl⟩
      simp only [List.cons.injEq, and_true, PyData.list.injEq] at e
      obtain ⟨e1, e2⟩ := e
      obtain ⟨e1, e3⟩ := fD_inj e1
      have mi : ∀ {a b : Str × Str}, mD a = mD b → a = b := fun {a b} h => by
        simp only [mD, PyData.tuple.injEq, List.cons.injEq, PyData.str.injEq, and_true] at h
        exact Prod.ext h.1 h.2
      have e2 := map_inj mi e2
      subst e1
      subst e2
      subst e3
      exact ⟨rs, es, ms, rfl, o, hm, rfl⟩
    · rintro C y ⟨rfl, rs', es', x', e, hn, rfl⟩
      simp only [List.cons.injEq, and_true] at e
      obtain ⟨e1, e2⟩ := e
      obtain ⟨e1, e3⟩ := fD_inj e1
      subst e1
      subst e2
      exact .inr ⟨rfl, rs, es, _, rfl, o, hn, rfl⟩
  · rintro C y ⟨rfl, f', e, hn, rfl⟩
    cases e
    exact .inl ⟨rfl, _, _, rfl, hn, rfl⟩
end
end K81


namespace K81
open PySem PySem.Spec PyProof.Rows L2 DL ErX
open Evl (Ex)
local macro_rules | `(tactic| walk_at "sz") => `(tactic| first | assumption | (rw [sizeLine_eq]; simp only [List.length_cons, List.length_nil, List.length_append, List.length_map, List.length_replicate, List.length_range]; omega) | (rw [sizeLine_eq]; simp; done) | (rw [sizeLine_eq]; simp; omega) | omega)
local macro_rules | `(tactic| walk_at "sh") => `(tactic| first | assumption | exact shaped_int _ | rfl | (exact ty_shaped (by assumption)) | (decide +kernel))
local macro_rules | `(tactic| walk_at "w") => `(tactic| first
  | ((with_reducible refine' w_var ?hv ?_); (case hv => rfl))
  | (with_reducible refine s_seq ?_)
  | (with_reducible refine s_set ?_)
  | (with_reducible refine s_ret ?_)
  | (with_reducible refine s_if ?_)
  | (with_reducible refine s_next ?_)
  | (with_reducible refine x_seq ?_)
  | (with_reducible refine x_if ?_)
  | ((with_reducible refine' w_isi ?_ ?_); decide)
  | (with_reducible refine w_callB ?_)
  | (with_reducible refine w_op ?_)
  | (with_reducible refine w_cons ?_)
  | (with_reducible refine w_nil ?_)
  | (with_reducible refine w_int ?_)
  | (with_reducible refine w_str ?_)
  | (with_reducible refine w_bl ?_)
  | (with_reducible refine w_non ?_)
  | (with_reducible refine w_test ?_)
  | (with_reducible refine w_tB ?_)
  | (with_reducible refine w_and ?_)
  | (with_reducible refine w_or ?_)
  | (with_reducible refine w_not ?_)
  | (with_reducible refine w_andV ?_)
  | (with_reducible refine w_orV ?_)
  | (with_reducible refine w_notV ?_)
  | (with_reducible refine w_if ?_)
  | ((with_reducible refine' w_chain ?hh ?hv); (case hv => rfl))
  | (with_reducible refine w_lst ?_)
  | (with_reducible refine w_tup ?_)
  | (with_reducible refine w_dnew ?_)
  | (with_reducible refine o_addI ?_)
  | (with_reducible refine o_subI ?_)
  | (with_reducible refine o_ltI ?_)
  | (with_reducible refine o_leI ?_)
  | (with_reducible refine o_gtI ?_)
  | (with_reducible refine o_geI ?_)
  | (with_reducible refine o_ltS ?_)
  | (with_reducible refine o_leS ?_)
  | (with_reducible refine o_gtS ?_)
  | (with_reducible refine o_geS ?_)
  | (with_reducible refine o_eqS ?_)
  | (with_reducible refine o_neS ?_)
  | (with_reducible refine o_isN ?_)
  | (with_reducible refine o_notN ?_)
  | (with_reducible refine o_isB ?_)
  | (with_reducible refine c_lenL ?_)
  | (with_reducible refine c_lenT ?_)
  | (with_reducible refine c_int ?_)
  | (with_reducible refine c_intB ?_)
  | (with_reducible refine c_ord ?_)
  | (with_reducible refine c_tupL ?_)
  | (with_reducible refine c_listL ?_)
  | (with_reducible refine c_listT ?_)
  | ((with_reducible refine o_eq ?_ ?_ ?_); (walk_at "sh"); (walk_at "sh"))
  | ((with_reducible refine o_ne ?_ ?_ ?_); (walk_at "sh"); (walk_at "sh"))
  | ((with_reducible refine' o_ixL ?hv ?_); (case hv => rfl))
  | ((with_reducible refine' o_ixT ?hv ?_); (case hv => rfl))
  | ((with_reducible refine o_modI ?_ ?_); (walk_at "sz"))
  | ((with_reducible refine o_addL ?_ ?_); (walk_at "sz"))
  | ((with_reducible refine o_addS ?_ ?_); (walk_at "sz"))
  | ((with_reducible refine o_addT ?_ ?_); (walk_at "sz"))
  | ((with_reducible refine c_lenS ?_ ?_); (walk_at "sz"))
  | refine iteT ?_
  | refine iteF ?_
  | refine And.intro (show _ ≤ sizeLine by walk_at "sz") ?_
  | refine ⟨_, rfl, ?_⟩
  | (refine' o_ixT ?hv ?_; (case hv => rfl))
  | (refine' o_ixL ?hv ?_; (case hv => rfl))
  | refine w_call ?_
  | refine w_callR ?_)
local macro_rules | `(tactic| walk_at "ws") => `(tactic| repeat walk_at "w")

section
variable {P : Program} {w : World} {K : PySem.W.Frag} {mg : Str → Option Value} {base : Heap} {CF CX CT : Addr}
abbrev s_law_hash : Stmt := top 38
theorem sc_law_hash : FnScope ["seed", "index", "mixed"] ["seed", "index"] (defScope s_law_hash) := ⟨rfl, rfl, rfl, by decide +kernel, rfl, by decide +kernel, by decide +kernel⟩
def sp_law_hash  : Sp := spD 2 (fun ds => ∃ s i : Int, ds = [.int s, .int i] ∧ 0 ≤ s ∧ s < 2147483647 ∧ 0 ≤ i ∧ i ≤ 1000000) (fun ds d => ∃ r : Int, d = .int r ∧ 0 ≤ r ∧ r < 2147483647)
theorem d_law_hash (T : Bl mg) (F : FunAt K mg "_law_hash" s_law_hash)   : Df P w K mg base CX0 1 "_law_hash" ["seed", "index"] [] sp_law_hash := by
  refine df_of F sc_law_hash (spD_len rfl) (fun _ _ _ _ _ _ _ us hl => match us, hl with | [_, _], _ => rfl) fun f cdv A outer s H E hr => ?_
  refine ⟨_, (pss_cons (ps_set (i := 2) sc_law_hash.nd rfl (Or.inl rfl) (pe_op op_mod (pe_callTy call_intX (by rfl) T.int_ (by rfl) (pa_cons (pe_op op_addX (pe_op op_addX (pe_op op_addX (pe_op DL.op_mulX (pv 0) pe_int) (pe_op DL.op_mulX (pe_op DL.op_mulX pe_int (pv 1)) (pv 1))) (pe_op DL.op_mulX pe_int (pv 1))) pe_int) pa_nil)) pe_int)) (pss_cons (ps_set (i := 2) sc_law_hash.nd rfl (Or.inl rfl) (pe_op op_mod (pe_callTy call_intX (by rfl) T.int_ (by rfl) (pa_cons (pe_op op_addX (pe_op op_addX (pe_op DL.op_mulX (pv 2) (pv 2)) (pe_op DL.op_mulX pe_int (pv 1))) pe_int) pa_nil)) pe_int)) (pss_one (ps_ret (pe_op op_mod (pe_callTy call_intX (by rfl) T.int_ (by rfl) (pa_cons (pe_op DL.op_mulX (pv 2) pe_int) pa_nil)) pe_int))))), fun vs Q h => ?_⟩
  refine body_D (n := 2) (k := 1) rfl (fun ds hl ⟨s, i, e, hs0, hs1, hi0, hi1⟩ => ?_) vs H Q E h
  subst e
  have b1 : (27644437 * i).natAbs ≤ 10 ^ 60 := by omega
  refine (s_seq (s_set (w_op (w_callB (w_cons (w_op (w_op (w_op (w_op (w_var rfl (w_int (o_mulI (mulB (by omega) (by decide)) (w_op (w_op (w_int (w_var rfl (o_mulI (mulB (by decide) (by omega)) (w_var rfl (o_mulI (mulB b1 (by omega)) (o_addI (w_op (w_int (w_var rfl (o_mulI (mulB (by decide) (by omega)) (o_addI (w_int (o_addI (w_nil (c_int (w_int (o_modI (by decide) ?_)))))))))))))))))))))))))))))))
  generalize hx : (s * 1140671 + 27644437 * i * i + 131 * i + 19) % 2147483629 = x
  have x0 : 0 ≤ x := by rw [← hx]; exact Int.emod_nonneg _ (by decide)
  have x1 : x < 2147483629 := by rw [← hx]; exact Int.emod_lt_of_pos _ (by decide)
  refine (s_seq (s_set (w_op (w_callB (w_cons (w_op (w_op (w_op (w_var rfl (w_var rfl (o_mulI (mulB (by omega) (by omega)) (w_op (w_int (w_var rfl (o_mulI (mulB (by decide) (by omega)) (o_addI (w_int (o_addI (w_nil (c_int (w_int (o_modI (by decide) ?_))))))))))))))))))))))
  generalize hy : (x * x + 62089 * i + 32416187) % 2147483587 = y
  have y0 : 0 ≤ y := by rw [← hy]; exact Int.emod_nonneg _ (by decide)
  have y1 : y < 2147483587 := by rw [← hy]; exact Int.emod_lt_of_pos _ (by decide)
  exact (s_ret (w_op (w_callB (w_cons (w_op (w_var rfl (w_int (o_mulI (mulB (by omega) (by decide)) (w_nil (c_int (w_int (o_modI (by decide) ⟨_, rfl, Int.emod_nonneg _ (by decide), Int.emod_lt_of_pos _ (by decide)⟩))))))))))))
abbrev s_law_random : Stmt := top 33
theorem sc_law_random : FnScope ["generator", "bound", "drawn", "turn"] ["generator", "bound"] (defScope s_law_random) := ⟨rfl, rfl, rfl, by decide +kernel, rfl, by decide +kernel, by decide +kernel⟩
def sp_law_random  : Sp := spG 1 (fun g ds => ∃ L : Int, ds = [.int L] ∧ 0 < L ∧ L ≤ 10 ^ 35 ∧ GB 6 g) (fun g ds d g' => ∃ L r : Int, ds = [.int L] ∧ d = .int r ∧ 0 ≤ r ∧ r < L ∧ GS 6 g g')
theorem d_law_random (T : Bl mg) (F : FunAt K mg "_law_random" s_law_random)  (d_law_hash : Df P w K mg base CX0 1 "_law_hash" ["seed", "index"] [] sp_law_hash) : Df P w K mg base CX0 2 "_law_random" ["generator", "bound"] [] sp_law_random := by
  refine df_of F sc_law_random (spG_len rfl) (fun _ _ _ _ _ _ _ us hl => match us, hl with | [_, _], _ => rfl) fun f cdv A outer s H E hr => ?_
  refine ⟨_, (pss_cons (ps_if (pt_cmpR op_gtX (pe_ix ix_seq (pv 0) pe_int (fun _ _ => rfl)) pe_int (nomark _)) (pss_cons (ps_set (i := 2) sc_law_random.nd rfl (Or.inl rfl) (pe_op op_mod (pe_callTy call_intX (by rfl) T.int_ (by rfl) (pa_cons (pe_ix ix_seq (pv 0) pe_int (fun _ _ => rfl)) pa_nil)) (pv 1))) (pss_cons (ps_asg (pe_op op_fdivW (pe_ix ix_seq (pv 0) pe_int (fun _ _ => rfl)) (pv 1)) (pg_sub (pv 0) pe_int set_list)) (pss_one (ps_ret (pv 2))))) pss_nil) (pss_cons (ps_set (i := 2) sc_law_random.nd rfl (Or.inl rfl) pe_int) (pss_cons (ps_for PassesOwn.never rfl (pi_range1 (by rfl) T.range_ (pa_cons (pe_op op_addX pe_int (pe_op op_fdivW (pe_bits (pv 1)) pe_int)) pa_nil)) (pg_name (i := 3) sc_law_random.nd rfl (Or.inl rfl)) (pss_cons (ps_asg (pe_op op_addX (pe_ix ix_seq (pv 0) pe_int (fun _ _ => rfl)) pe_int) (pg_sub (pv 0) pe_int set_list)) (pss_one (ps_set (i := 2) sc_law_random.nd rfl (Or.inl rfl) (pe_op op_addX (pe_op DL.op_mulX (pv 2) pe_int) (pe_def (E := E0) d_law_hash hr (by decide) pass0 (pa_cons (pe_ix ix_seq (pv 0) pe_int (fun _ _ => rfl)) (pa_cons (pe_ix ix_seq (pv 0) pe_int (fun _ _ => rfl)) pa_nil)))))))) (pss_one (ps_ret (pe_op op_mod (pe_callTy call_intX (by rfl) T.int_ (by rfl) (pa_cons (pv 2) pa_nil)) (pv 1))))))), fun vs Q h => ?_⟩
  refine body_G (n := 1) (k := 2) rfl (fun g ds hl ⟨L, e, hL0, hL1, hg⟩ => ?_) vs H Q E h
  subst e
  obtain ⟨a0, b0, b1, c0, c1⟩ := hg
  have cd : ∀ x : Int, CDivW x L := fun x => wide_div (b := 200) hL0 (Nat.lt_of_le_of_lt (show L.natAbs ≤ 10 ^ 35 by omega) (by decide)) (by decide) (by decide)
  refine (s_seq (s_if (w_test (w_op (w_g0 rfl (w_int (o_gtI ⟨_, rfl, ?_⟩)))))))
  by_cases z : 0 < g.1
  · rw [decide_eq_true z]
    refine iteT (s_seq (s_set (w_op (w_callB (w_cons (w_g0 rfl (w_nil (c_int (w_var rfl (o_modI hL0 ?_))))))))))
    refine (s_seq (s_gen0 (w_op (w_g0 rfl (w_var rfl (o_divI (cd _) ⟨_, g, rfl, rfl, one0 (by simp [rho0, List.replicate, ng_dat, ng_no]), ?_⟩))))))
    exact s_ret (w_var rfl ⟨(g.1 / L, g.2), rfl, L, g.1 % L, rfl, rfl, Int.emod_nonneg _ (by omega), Int.emod_lt_of_pos _ hL0, Int.ediv_nonneg a0 (by omega), b0, b1, c0, by show g.2.2 ≤ _; omega⟩)
  · rw [decide_eq_false z]
    refine iteF (s_next ?_)
    have bb := bits_le hL0 hL1
    have bn : 0 ≤ (Builtin.Int.intBits L : Int) := by omega
    refine (s_seq (s_set (w_int ?_)))
    refine (s_seq (s_for (i_rng1 (w_cons (w_op (w_int (w_op (w_bits (w_var rfl ⟨L, rfl, w_int (o_divI (wide_div (b := 5) (by decide) (by decide) (by decide) (by decide)) (o_addI (w_nil ⟨_, rfl, by omega, by omega, ?_⟩)))⟩)))))))))
    refine ⟨fun i ρ => ∃ (x : Int) (e3 : Ent), ρ = [.gen (g.1, g.2.1, g.2.2 + i), .dat (.int L), .dat (.int x), e3] ∧ e3.ng ∧ 0 ≤ x ∧ x ≤ (((2 ^ 32) ^ i : Nat) : Int), ⟨0, .no, by simp; rfl, ng_no, by omega, by simp⟩, ?_, ?_⟩
    · rintro ρ ⟨x, e3, rfl, he3, x0, x1⟩
      rw [rngD_len]
      refine (s_ret (w_op (w_callB (w_cons (w_var rfl (w_nil (c_int (w_var rfl (o_modI hL0 ⟨_, rfl, L, _, rfl, rfl, Int.emod_nonneg _ (by omega), Int.emod_lt_of_pos _ hL0, a0, b0, b1, ?_, ?_⟩)))))))))
      · show 0 ≤ g.2.2 + _
        omega
      · show g.2.2 + _ ≤ g.2.2 + 6
        omega
    · rintro i d ρ hd ⟨x, e3, rfl, he3, x0, x1⟩
      obtain ⟨hi, rfl⟩ := rng0_get' hd
      have hi5 : i < 5 := by omega
      have xn : (2 ^ 32) ^ i ≤ (2 ^ 32) ^ 5 := Nat.pow_le_pow_right (by decide) (by omega)
      have xb' : x.natAbs ≤ 10 ^ 60 := by
        have e : (2 ^ 32) ^ 5 = 1461501637330902918203684832716283019655932542976 := by decide
        rw [e] at xn
        omega
      refine (g_name (s_seq (s_gen2 (w_op (w_g2 rfl (w_int (o_addI ⟨_, _, rfl, rfl, one0 (by simp [ng_dat, he3]), ?_⟩)))))))
      refine (s_set (w_op (w_op (w_var rfl (w_int (o_mulI (mulB xb' (by decide)) (w_call (w_cons (w_g1 rfl (w_cons (w_g2 rfl (w_nil (⟨rfl, ⟨_, _, rfl, b0, b1, by show 0 ≤ g.2.2 + i + 1; omega, by show g.2.2 + i + 1 ≤ _; omega⟩, ?_⟩)))))))))))))
      rintro d ⟨r, rfl, r0, r1⟩
      refine o_addI ⟨x * 2147483587 + r, .dat (.int (i : Int)), ?_, ng_dat, ?_, ?_⟩
      · rw [show (((i + 1 : Nat) : Int)) = (i : Int) + 1 by omega, ← Int.add_assoc]
        rfl
      · have := Int.mul_nonneg x0 (show (0 : Int) ≤ 2147483587 by decide)
        omega
      · have e : (2 ^ 32) ^ (i + 1) = (2 ^ 32) ^ i * 2 ^ 32 := Nat.pow_succ _ _
        have h2 : 0 < (2 ^ 32) ^ i := Nat.pow_pos (by decide)
        rw [e]
        generalize (2 ^ 32) ^ i = b at *
        omega
abbrev s_law_cell : Stmt := top 39
theorem sc_law_cell : FnScope ["script", "index"] ["script", "index"] (defScope s_law_cell) := ⟨rfl, rfl, rfl, by decide +kernel, rfl, by decide +kernel, by decide +kernel⟩
theorem d_law_cell (T : Bl mg) (F : FunAt K mg "_law_cell" s_law_cell)   : Df P w K mg base CX0 1 "_law_cell" ["script", "index"] [] (spCel K) := by
  refine df_of F sc_law_cell (spCel_len rfl) (fun _ _ _ _ _ _ _ us hl => match us, hl with | [_, _], _ => rfl) fun f cdv A outer s H E hr => ?_
  refine ⟨_, (pss_cons (ps_if (pt_cmpR op_ltX (pv 1) (pe_callB call_lenX (by rfl) T.len_ (by rfl) (pa_cons (pv 0) pa_nil)) (nomark _)) (pss_one (ps_ret (pe_ix ix_seq (pv 0) (pv 1) (fun _ _ => rfl)))) pss_nil) (pss_one (ps_ret (pe_op op_mod (pe_callB (cr_sum rfl) (by rfl) T.sum_ (by rfl) (pa_cons (pe_slice sl_X (pv 0) po_none (po_some pe_int)) pa_nil)) pe_int)))), fun vs Q h => ?_⟩
  obtain ⟨a, ns, i, rfl, hq, hn, q⟩ := h
  refine ⟨_, rfl, _, rfl, .inl ⟨a, _, rfl, .inl hq, .inl ⟨_, _, rfl, rfl, _, rfl, ?_⟩⟩⟩
  rw [List.length_map]
  by_cases z : (i : Int) < (ns.length : Nat)
  · rw [decide_eq_true z]
    have hi : i < ns.length := by omega
    have hx : (ns.map V.int)[i]? = some (V.int ns[i]) := by
      rw [List.getElem?_map, List.getElem?_eq_getElem hi]
      rfl
    exact iteT ⟨_, rfl, _, rfl, .inl ⟨a, _, _, _, rfl, rfl, hq, atI_nat hx, q _ _ (Ex.refl H)⟩⟩
  · rw [decide_eq_false z]
    refine iteF ⟨_, rfl, 1, rfl, .inl ⟨a, _, rfl, hq, fun p hp => ⟨p, ns.take 1, rfl, ?_, _, _, rfl, rfl, (by show (0 : Int) < 1000003; decide), q _ _ (Ex.new hp)⟩⟩⟩
    have : cutV (ns.map V.int) none (some 1) = (ns.take 1).map V.int := by
      unfold cutV
      rw [HT.sIx_none, show (1 : Int) = ((1 : Nat) : Int) from rfl, HT.sIx_nat, List.drop_zero, Nat.sub_zero, List.length_map, List.map_take]
      by_cases h : 1 ≤ ns.length
      · rw [Nat.min_eq_left h]
      · have : ns = [] := List.length_eq_zero_iff.mp (by omega)
        rw [this]
        rfl
    rw [this]
    exact .inl (.inl upd_same)
def sp_law_generator (K : PySem.W.Frag) : Sp := fun vs H Q _ => ∃ (a : Addr) (ns : List Int) (i : Nat), vs = [.ref a, .int i] ∧ SqL K H a (ns.map V.int) ∧ ns.length ≤ 1000 ∧ i ≤ 4 ∧ ∀ (p : Addr) (g : Gn) (H' : Hp), Ex H H' → H p = none → H' p = some (.lst (genV g)) → GB 90000 g → Q (.ref p) H'
abbrev s_law_generator : Stmt := top 34
theorem sc_law_generator : FnScope ["script", "index", "seed"] ["script", "index"] (defScope s_law_generator) := ⟨rfl, rfl, rfl, by decide +kernel, rfl, by decide +kernel, by decide +kernel⟩
theorem d_law_generator (T : Bl mg) (F : FunAt K mg "_law_generator" s_law_generator)  (d_law_cell : Df P w K mg base CX0 1 "_law_cell" ["script", "index"] [] (spCel K)) : Df P w K mg base CX0 2 "_law_generator" ["script", "index"] [] (sp_law_generator K) := by
  refine df_of F sc_law_generator (fun vs H Q E ⟨a, ns, i, e, _⟩ => by rw [e]; rfl) (fun _ _ _ _ _ _ _ us hl => match us, hl with | [_, _], _ => rfl) fun f cdv A outer s H E hr => ?_
  refine ⟨_, (pss_cons (ps_set (i := 2) sc_law_generator.nd rfl (Or.inl rfl) (pe_def (E := E0) d_law_cell hr (by decide) pass0 (pa_cons (pv 0) (pa_cons (pv 1) pa_nil)))) (pss_one (ps_ret (pe_lst (pa_cons (pe_op op_mod (pe_callTy call_intX (by rfl) T.int_ (by rfl) (pa_cons (pe_callB (call_maxX rfl) (by rfl) T.max_ (by rfl) (pa_cons (pe_op op_sub (pv 2) (pe_op op_powW pe_int pe_int)) (pa_cons pe_int pa_nil))) pa_nil)) (pe_op op_powW (pe_op op_powW pe_int pe_int) pe_int)) (pa_cons (pe_op op_mod (pe_callTy call_intX (by rfl) T.int_ (by rfl) (pa_cons (pv 2) pa_nil)) pe_int) (pa_cons (pe_op DL.op_mulX pe_int (pv 1)) pa_nil))))))), fun vs Q h => ?_⟩
  obtain ⟨a, ns, i, rfl, hq, hn, hi, q⟩ := h
  have K0 : DL.Ok ⟨none, fun _ => none, H⟩ (fun _ => none) H (L2.start ["script", "index", "seed"] [.ref a, .int (i : Int)]) [.raw (isScr K ns), .dat (.int (i : Int)), .no] := by
    refine ⟨Ex.refl _, fun _ _ e => (by cases e), fun _ _ e => (by cases e), fun _ _ e _ => e, fun _ e => (by cases e), rfl, fun k e s e1 e2 => ?_, fun k l dk dl b e1 => ?_⟩
    · match k, e1, e2 with
      | 0, e1, e2 =>
        cases e1
        cases e2
        exact ⟨rfl, a, rfl, hq⟩
      | 1, e1, e2 =>
        cases e1
        cases e2
        exact ⟨_, rfl, .int _⟩
      | 2, e1, _ =>
        cases e1
        trivial
      | k + 3, e1, _ => simp at e1
    · match k, e1 with
      | 0, e1 => cases e1
      | 1, e1 => cases e1
      | 2, e1 => cases e1
      | k + 3, e1 => simp at e1
  refine wXO_go (W := fun _ _ _ _ => False) (Bad := fun _ _ => False) (Rt := fun es => ∃ g : Gn, es = [.int g.1, .int g.2.1, .int g.2.2] ∧ GB 90000 g) K0 ?_ (fun p xs G' H' σ' ρ' es K' e ⟨g, eg, hg⟩ hp hgp h0 hd => ?_) fun C x v e G' H' σ' ρ' _ _ b => b.elim
  · refine xo_seq (x_of (s_set (w_cell (i := 0) (j := 1) rfl rfl hn fun x => ?_)))
    refine (xo_ret (wO_lst (w_cons (w_op (w_callB (w_cons (w_callB (w_cons (w_op (w_var rfl (w_op (w_int (w_int (o_powW ⟨by decide, by decide⟩ (o_subI (w_cons (w_int (w_nil (c_max2 (w_nil (c_int (w_op (w_op (w_int (w_int (o_powW ⟨by decide, by decide⟩ (w_int (o_powW ⟨by decide, by decide +kernel⟩ (o_modI (by decide +kernel) ?_)))))))))))))))))))))))))))))
    refine (w_cons (w_op (w_callB (w_cons (w_var rfl (w_nil (c_int (w_int (o_modI (by decide) (w_cons (w_op (w_int (w_var rfl (o_mulI (mulB (by decide) (by omega)) (w_nil (⟨(show (3 : Nat) ≤ sizeLine by decide), (_, _, _), rfl, ?_⟩))))))))))))))))
    exact ⟨Int.emod_nonneg _ (by decide +kernel), Int.emod_nonneg _ (by decide), Int.emod_lt_of_pos _ (by decide), by show (0 : Int) ≤ 1000 * i; omega, by show (1000 : Int) * i + 90000 ≤ _; omega⟩
  subst eg
  have exs : xs = genV g := by
    cases hd with
    | cons a d1 =>
      obtain ⟨v, w, rfl, b, c⟩ := d1.two
      rw [a.int', b.int', c.int']
      rfl
  subst exs
  exact q p g H' (fun b o z => K'.kp b o z (by intro z; cases z)) h0 hp hg
/-- what may be drawn from d -/
def Draw (d e : PyData) : Prop := (∃ xs, d = .list xs ∧ e ∈ xs) ∨ ∃ z c, d = .str z ∧ c ∈ z.cps.toList ∧ e = .str (sg c)
def lenD : PyData → Nat
  | .list xs => xs.length
  | .str z => z.length
  | _ => 0
abbrev s_law_pick : Stmt := top 35
theorem sc_law_pick : FnScope ["generator", "things"] ["generator", "things"] (defScope s_law_pick) := ⟨rfl, rfl, rfl, by decide +kernel, rfl, by decide +kernel, by decide +kernel⟩
def sp_law_pick  : Sp := spG 1 (fun g ds => ∃ d, ds = [d] ∧ ((∃ xs, d = .list xs) ∨ ∃ z, d = .str z) ∧ 0 < lenD d ∧ lenD d ≤ 1000 ∧ GB 6 g) (fun g ds d g' => ∃ x, ds = [x] ∧ Draw x d ∧ GS 6 g g')
theorem d_law_pick (T : Bl mg) (F : FunAt K mg "_law_pick" s_law_pick)  (d_law_random : Df P w K mg base CX0 2 "_law_random" ["generator", "bound"] [] sp_law_random) : Df P w K mg base CX0 3 "_law_pick" ["generator", "things"] [] sp_law_pick := by
  refine df_of F sc_law_pick (spG_len rfl) (fun _ _ _ _ _ _ _ us hl => match us, hl with | [_, _], _ => rfl) fun f cdv A outer s H E hr => ?_
  refine ⟨_, (pss_one (ps_ret (pe_ix ix_seq (pv 1) (pe_def (E := E0) d_law_random hr (by decide) pass0 (pa_cons (pv 0) (pa_cons (pe_callB call_lenX (by rfl) T.len_ (by rfl) (pa_cons (pv 1) pa_nil)) pa_nil))) (fun _ _ => rfl)))), fun vs Q h => ?_⟩
  refine body_G (n := 1) (k := 0) rfl (fun g ds hl ⟨x, e, hx, h0, h1, hg⟩ => ?_) vs H Q E h
  subst e
  refine (s_ret (w_op (w_var rfl (w_callG rfl (w_cons (w_callB (w_cons (w_var rfl (w_nil ?_)))))))))
  rcases hx with ⟨xs, rfl⟩ | ⟨z, rfl⟩
  · simp only [lenD] at h0 h1
    refine (c_lenL (w_nil (⟨g, rfl, one0 (by simp [rho0, ng_dat]), rfl, ⟨_, rfl, by omega, by omega, hg⟩, ?_⟩)))
    rintro d g' ⟨L, r, e, rfl, r0, r1, hs⟩
    cases e
    obtain ⟨k, rfl⟩ := Int.eq_ofNat_of_zero_le r0
    have hk : k < xs.length := by omega
    have hx : xs[k]? = some xs[k] := List.getElem?_eq_getElem hk
    exact o_ixL (atI_nat hx) ⟨g', rfl, _, rfl, .inl ⟨xs, rfl, List.getElem_mem hk⟩, hs⟩
  · simp only [lenD] at h0 h1
    refine (c_lenS (by rw [sizeLine_eq]; omega) (w_nil (⟨g, rfl, one0 (by simp [rho0, ng_dat]), rfl, ⟨_, rfl, by omega, by omega, hg⟩, ?_⟩)))
    rintro d g' ⟨L, r, e, rfl, r0, r1, hs⟩
    cases e
    obtain ⟨k, rfl⟩ := Int.eq_ofNat_of_zero_le r0
    have hk : k < z.cps.size := by
      have : z.length = z.cps.size := rfl
      omega
    exact o_ixS (by rw [sizeLine_eq]; have : z.length = z.cps.size := rfl; omega) (atI_nat (by rw [Array.getElem?_toList, Array.getElem?_eq_getElem hk])) ⟨g', rfl, _, rfl, .inr ⟨z, z.cps[k], rfl, by simp, rfl⟩, hs⟩
end
end K81


namespace K81
open PySem PySem.Spec PyProof.Rows L2 DL ErX
open Evl (Ex)
local macro_rules | `(tactic| walk_at "sz") => `(tactic| first | assumption | (rw [sizeLine_eq]; simp only [List.length_cons, List.length_nil, List.length_append, List.length_map, List.length_replicate, List.length_range]; omega) | (rw [sizeLine_eq]; simp; done) | (rw [sizeLine_eq]; simp; omega) | omega)
local macro_rules | `(tactic| walk_at "sh") => `(tactic| first | assumption | exact shaped_int _ | rfl | (exact ty_shaped (by assumption)) | (decide +kernel))
local macro_rules | `(tactic| walk_at "w") => `(tactic| first
  | ((with_reducible refine' w_var ?hv ?_); (case hv => rfl))
  | (with_reducible refine s_seq ?_)
  | (with_reducible refine s_set ?_)
  | (with_reducible refine s_ret ?_)
  | (with_reducible refine s_if ?_)
  | (with_reducible refine s_next ?_)
  | (with_reducible refine x_seq ?_)
  | (with_reducible refine x_if ?_)
  | ((with_reducible refine' w_isi ?_ ?_); decide)
  | (with_reducible refine w_callB ?_)
  | (with_reducible refine w_op ?_)
  | (with_reducible refine w_cons ?_)
  | (with_reducible refine w_nil ?_)
  | (with_reducible refine w_int ?_)
  | (with_reducible refine w_str ?_)
  | (with_reducible refine w_bl ?_)
  | (with_reducible refine w_non ?_)
  | (with_reducible refine w_test ?_)
  | (with_reducible refine w_tB ?_)
  | (with_reducible refine w_and ?_)
  | (with_reducible refine w_or ?_)
  | (with_reducible refine w_not ?_)
  | (with_reducible refine w_andV ?_)
  | (with_reducible refine w_orV ?_)
  | (with_reducible refine w_notV ?_)
  | (with_reducible refine w_if ?_)
  | ((with_reducible refine' w_chain ?hh ?hv); (case hv => rfl))
  | (with_reducible refine w_lst ?_)
  | (with_reducible refine w_tup ?_)
  | (with_reducible refine w_dnew ?_)
  | (with_reducible refine o_addI ?_)
  | (with_reducible refine o_subI ?_)
  | (with_reducible refine o_ltI ?_)
  | (with_reducible refine o_leI ?_)
  | (with_reducible refine o_gtI ?_)
  | (with_reducible refine o_geI ?_)
  | (with_reducible refine o_ltS ?_)
  | (with_reducible refine o_leS ?_)
  | (with_reducible refine o_gtS ?_)
  | (with_reducible refine o_geS ?_)
  | (with_reducible refine o_eqS ?_)
  | (with_reducible refine o_neS ?_)
  | (with_reducible refine o_isN ?_)
  | (with_reducible refine o_notN ?_)
  | (with_reducible refine o_isB ?_)
  | (with_reducible refine c_lenL ?_)
  | (with_reducible refine c_lenT ?_)
  | (with_reducible refine c_int ?_)
  | (with_reducible refine c_intB ?_)
  | (with_reducible refine c_ord ?_)
  | (with_reducible refine c_tupL ?_)
  | (with_reducible refine c_listL ?_)
  | (with_reducible refine c_listT ?_)
  | ((with_reducible refine o_eq ?_ ?_ ?_); (walk_at "sh"); (walk_at "sh"))
  | ((with_reducible refine o_ne ?_ ?_ ?_); (walk_at "sh"); (walk_at "sh"))
  | ((with_reducible refine' o_ixL ?hv ?_); (case hv => rfl))
  | ((with_reducible refine' o_ixT ?hv ?_); (case hv => rfl))
  | ((with_reducible refine o_modI ?_ ?_); (walk_at "sz"))
  | ((with_reducible refine o_addL ?_ ?_); (walk_at "sz"))
  | ((with_reducible refine o_addS ?_ ?_); (walk_at "sz"))
  | ((with_reducible refine o_addT ?_ ?_); (walk_at "sz"))
  | ((with_reducible refine c_lenS ?_ ?_); (walk_at "sz"))
  | refine iteT ?_
  | refine iteF ?_
  | refine And.intro (show _ ≤ sizeLine by walk_at "sz") ?_
  | refine ⟨_, rfl, ?_⟩
  | (refine' o_ixT ?hv ?_; (case hv => rfl))
  | (refine' o_ixL ?hv ?_; (case hv => rfl))
  | refine w_call ?_
  | refine w_callR ?_)
local macro_rules | `(tactic| walk_at "ws") => `(tactic| repeat walk_at "w")

section
variable {P : Program} {w : World} {K : PySem.W.Frag} {mg : Str → Option Value} {base : Heap} {CF CX CT : Addr}
abbrev s_law_drawn_order : Stmt := top 36
theorem sc_law_drawn_order : FnScope ["generator", "things", "left", "found"] ["generator", "things"] (defScope s_law_drawn_order) := ⟨rfl, rfl, rfl, by decide +kernel, rfl, by decide +kernel, by decide +kernel⟩
def sp_law_drawn_order  : Sp := spG 1 (fun g ds => ∃ xs : List PyData, ds = [.list xs] ∧ xs.length ≤ 100 ∧ GB 600 g) (fun g ds d g' => ∃ xs l : List PyData, ds = [.list xs] ∧ d = .list l ∧ l.Perm xs ∧ GS 600 g g')
theorem d_law_drawn_order (T : Bl mg) (F : FunAt K mg "_law_drawn_order" s_law_drawn_order)  (d_law_random : Df P w K mg base CX0 2 "_law_random" ["generator", "bound"] [] sp_law_random) : Df P w K mg base CX0 3 "_law_drawn_order" ["generator", "things"] [] sp_law_drawn_order := by
  refine df_of F sc_law_drawn_order (spG_len rfl) (fun _ _ _ _ _ _ _ us hl => match us, hl with | [_, _], _ => rfl) fun f cdv A outer s H E hr => ?_
  refine ⟨_, (pss_cons (ps_par (i := 2) (j := 3) rfl sc_law_drawn_order.nd rfl rfl (by decide) rfl rfl (pa_cons (pe_callTy call_listX (by rfl) T.list_ (by rfl) (pa_cons (pv 1) pa_nil)) (pa_cons (pe_lst pa_nil) pa_nil)) (by rfl)) (pss_cons (ps_while PassesOwn.never (pt_cmpR (op_neNil hr.units) (pv 2) (pe_lst pa_nil) (nomark _)) (pss_one (ps_expr (pe_bm PySem.F.plainAttrs_list PySem.F.slot_list_append PySem.F.type_list_append mt_append (pv 3) (pa_cons (pe_bm PySem.F.plainAttrs_list PySem.F.slot_list_pop PySem.F.type_list_pop mt_popAt (pv 2) (pa_cons (pe_def (E := E0) d_law_random hr (by decide) pass0 (pa_cons (pv 0) (pa_cons (pe_callB call_lenX (by rfl) T.len_ (by rfl) (pa_cons (pv 2) pa_nil)) pa_nil))) pa_nil)) pa_nil))))) (pss_one (ps_ret (pv 3))))), fun vs Q h => ?_⟩
  refine body_G (n := 1) (k := 2) rfl (fun g ds hl ⟨xs, e, hn, hg⟩ => ?_) vs H Q E h
  subst e
  refine (s_seq (s_parOO (wO_listL (w_cons (w_var rfl (w_nil (⟨_, rfl, wO_lst (w_nil ⟨by decide, ?_⟩)⟩)))))))
  refine s_seq (s_while (m0 := xs.length) (fun c ρ => ∃ (le fo : List PyData) (g' : Gn), ρ = [.gen g', .dat (.list xs), .own le, .own fo] ∧ (fo ++ le).Perm xs ∧ c = le.length ∧ GS (6 * fo.length) g g') ⟨xs, [], g, rfl, by simp, rfl, (GB.refl hg).le (by simp)⟩ ?_)
  rintro c ρ ⟨le, fo, g', rfl, hp, rfl, hs⟩
  have hlen := hp.length_eq
  rw [List.length_append] at hlen
  refine w_thawT (i := 2) rfl (w_test (w_op (w_var rfl (w_lst (w_nil (⟨by decide, o_neNilD ⟨_, rfl, ?_⟩⟩))))))
  cases le with
  | nil =>
    refine iteF (s_retO rfl ⟨g', rfl, xs, fo, rfl, rfl, by simpa using hp, hs.le ?_⟩)
    simp at hlen
    omega
  | cons x le =>
    rw [decide_eq_false (by simp)]
    refine iteT (s_popapp (a := 2) (b := 3) (by decide) rfl rfl (w_callG rfl (w_cons (w_thaw (i := 2) rfl (w_callB (w_cons (w_var rfl (w_nil (c_lenL (⟨rfl, w_nil ⟨g', rfl, one0 (by simp [ng_dat, ng_own]), rfl, ⟨_, rfl, ?_, ?_, ?_⟩, ?_⟩⟩))))))))))
    · rw [List.length_cons]
      omega
    · rw [List.length_cons]
      simp at hlen
      omega
    · refine hs.gb (hg.le ?_)
      simp at hlen
      omega
    · rintro d g2 ⟨L, r, e, rfl, r0, r1, hs2⟩
      cases e
      obtain ⟨k, rfl⟩ := Int.eq_ofNat_of_zero_le r0
      have hk : k < (x :: le).length := by omega
      have hx : (x :: le)[k]? = some (x :: le)[k] := List.getElem?_eq_getElem hk
      refine ⟨k, (x :: le)[k], rfl, hx, by simp at hlen hk; omega, by rw [sizeLine_eq]; omega, (x :: le).length - 1, by simp, (x :: le).eraseIdx k, fo ++ [(x :: le)[k]], g2, rfl, ?_, ?_, ?_⟩
      · refine List.Perm.trans ?_ hp
        rw [List.append_assoc]
        exact List.Perm.append_left fo (erase_perm hx).symm
      · rw [List.length_eraseIdx, if_pos hk]
      · refine (hs.trans hs2).le ?_
        rw [List.length_append, List.length_singleton]
        omega
/-- a text of n signs drawn from a text -/
def TxOf (s z : Str) : Prop := ∀ c ∈ z.cps.toList, c ∈ s.cps.toList
theorem draw_tx {s : Str} {acc : List PyData} (h : ∀ e ∈ acc, Draw (.str s) e) : ∃ z : List Nat, acc = z.map (fun c => .str (sg c)) ∧ ∀ c ∈ z, c ∈ s.cps.toList := by
  induction acc with
  | nil => exact ⟨[], rfl, by simp⟩
  | cons x xs ih =>
    obtain ⟨z, e, hz⟩ := ih fun e he => h e (List.mem_cons_of_mem _ he)
    rcases h x List.mem_cons_self with ⟨_, e', _⟩ | ⟨z', c, e', hc, rfl⟩
    · cases e'
    · cases e'
      refine ⟨c :: z, by rw [e]; rfl, fun y hy => ?_⟩
      rcases List.mem_cons.mp hy with q | q
      · rw [q]
        exact hc
      · exact hz y q
theorem join_sgs (z : List Nat) : Txt.join "" (z.map sg) = ⟨z.toArray⟩ := by
  have h := join_nil (z.map sg)
  generalize Txt.join "" (z.map sg) = t at *
  obtain ⟨⟨l⟩⟩ := t
  have : l = z := by
    have e : l = (z.map sg).flatMap fun y => y.cps.toList := h
    rw [e, List.flatMap_map]
    induction z with
    | nil => rfl
    | cons c z ih => simp [sg, ih]
  rw [this]
theorem sum_sgs : ∀ z : List Nat, ((z.map sg).map (·.length)).sum = z.length
  | [] => rfl
  | c :: z => by
    have := sum_sgs z
    simp only [List.map_cons, List.sum_cons, List.length_cons, this]
    have : (sg c).length = 1 := rfl
    omega
abbrev s_law_text : Stmt := top 41
theorem sc_law_text : FnScope ["generator", "signs", "least", "most", "turn"] ["generator", "signs", "least", "most"] (defScope s_law_text) := ⟨rfl, rfl, rfl, by decide +kernel, rfl, by decide +kernel, by decide +kernel⟩
def sp_law_text  : Sp := spG 3 (fun g ds => ∃ (s : Str) (a b : Nat), ds = [.str s, .int a, .int b] ∧ a ≤ b ∧ b ≤ 20 ∧ 0 < s.length ∧ s.length ≤ 100 ∧ GB 130 g) (fun g ds d g' => ∃ (s : Str) (a b : Nat) (z : Str), ds = [.str s, .int a, .int b] ∧ d = .str z ∧ TxOf s z ∧ a ≤ z.length ∧ z.length ≤ b ∧ GS 130 g g')
theorem d_law_text (T : Bl mg) (F : FunAt K mg "_law_text" s_law_text)  (d_law_pick : Df P w K mg base CX0 3 "_law_pick" ["generator", "things"] [] sp_law_pick) (d_law_random : Df P w K mg base CX0 2 "_law_random" ["generator", "bound"] [] sp_law_random) : Df P w K mg base CX0 4 "_law_text" ["generator", "signs", "least", "most"] [] sp_law_text := by
  refine df_of F sc_law_text (spG_len rfl) (fun _ _ _ _ _ _ _ us hl => match us, hl with | [_, _, _, _], _ => rfl) fun f cdv A outer s H E hr => ?_
  refine ⟨_, (pss_one (ps_ret (pe_join pe_str (pe_lc (own := [("turn", 4)]) (g := (gName 4)) (tt := tYes) (te := (tCall sp_law_pick [] E0 (tCons (tVar 0) (tCons (tVar 1) tNil)))) rfl sc_law_text.nd (pi_range1 (by rfl) T.range_ (pa_cons (pe_op op_addX (pv 2) (pe_def (E := E0) d_law_random hr (by decide) pass0 (pa_cons (pv 0) (pa_cons (pe_op op_addX (pe_op op_sub (pv 3) (pv 2)) pe_int) pa_nil)))) pa_nil)) (blkOk_by (N := ["generator", "signs", "least", "most", "turn"]) (sc := defScope s_law_text) (by decide +kernel)) (fun _ _ _ _ _ => (pg_name (i := 4) sc_law_text.nd rfl (Or.inl rfl))) (fun _ _ _ _ _ => pts_nil) (fun _ _ _ _ _ => (pe_def (E := E0) d_law_pick hr (by decide) pass0 (pa_cons (pv 0) (pa_cons (pv 1) pa_nil)))))))), fun vs Q h => ?_⟩
  refine body_G (n := 3) (k := 1) rfl (fun g ds hl ⟨s, a, b, e, hab, hb, hs0, hs1, hg⟩ => ?_) vs H Q E h
  subst e
  refine (s_ret (w_join (w_str (⟨rfl, ?_⟩))))
  refine (w_lc (by simp [rho0, List.replicate]) (i_rng1 (w_cons (w_op (w_var rfl (w_callG rfl (w_cons (w_op (w_op (w_var rfl (w_var rfl (o_subI (w_int (o_addI (w_nil (⟨g, rfl, one0 (by simp [rho0, List.replicate, ng_dat, ng_no]), rfl, ⟨_, rfl, by omega, by omega, hg.le (by decide)⟩, ?_⟩))))))))))))))))
  rintro d g1 ⟨L, r, e, rfl, r0, r1, hs⟩
  cases e
  obtain ⟨k, rfl⟩ := Int.eq_ofNat_of_zero_le r0
  have hg1 : GB 124 g1 := hs.gb (hg.le (by decide))
  refine o_addI (w_nil ⟨_, rfl, by omega, by omega, ?_⟩)
  have en : ((a : Int) + k).toNat = a + k := by omega
  rw [en]
  refine draws (rest := [.dat (.str s), .dat (.int a), .dat (.int b), .no]) (j := 3) (g := g1) (n := a + k) (c := 6) (S := Draw (.str s)) rfl rfl (by omega) (by decide) (hg1.le (by omega)) (fun i g' hi hg' => ?_) fun acc g' hl hS hs' => ?_
  · refine (w_callG rfl (w_cons (w_var rfl (w_nil (⟨g', rfl, one0 (by simp [ng_dat, ng_no]), rfl, ⟨_, rfl, .inr ⟨_, rfl⟩, hs0, by show s.length ≤ 1000; omega, hg'⟩, ?_⟩)))))
    rintro d g2 ⟨x, e, hd, hs2⟩
    cases e
    exact ⟨g2, rfl, hd, hs2⟩
  · obtain ⟨z, rfl, hz⟩ := draw_tx hS
    rw [List.length_map] at hl
    refine ⟨z.map sg, by rw [List.map_map]; rfl, ?_, ?_⟩
    · rw [sum_sgs]
      have : ("" : Str).length = 0 := rfl
      rw [this]
      omega
    · rw [join_sgs]
      refine ⟨g', rfl, s, a, b, ⟨z.toArray⟩, rfl, rfl, hz, ?_, ?_, (hs.trans hs').le (by omega)⟩
      · show a ≤ z.toArray.size
        simp
        omega
      · show z.toArray.size ≤ b
        simp
        omega
abbrev s_law_name : Stmt := top 42
theorem sc_law_name : FnScope ["generator", "turn"] ["generator"] (defScope s_law_name) := ⟨rfl, rfl, rfl, by decide +kernel, rfl, by decide +kernel, by decide +kernel⟩
def sp_law_name  : Sp := spG 0 (fun g ds => ds = [] ∧ GB 60 g) (fun g ds d g' => ∃ z : Str, d = .str z ∧ TxOf "abcdefghijklmnopqrstuvwxyz" z ∧ 1 ≤ z.length ∧ z.length ≤ 8 ∧ GS 60 g g')
theorem d_law_name (T : Bl mg) (F : FunAt K mg "_law_name" s_law_name)  (d_law_pick : Df P w K mg base CX0 3 "_law_pick" ["generator", "things"] [] sp_law_pick) (d_law_random : Df P w K mg base CX0 2 "_law_random" ["generator", "bound"] [] sp_law_random) : Df P w K mg base CX0 4 "_law_name" ["generator"] [] sp_law_name := by
  refine df_of F sc_law_name (spG_len rfl) (fun _ _ _ _ _ _ _ us hl => match us, hl with | [_], _ => rfl) fun f cdv A outer s H E hr => ?_
  refine ⟨_, (pss_one (ps_ret (pe_join pe_str (pe_lc (own := [("turn", 1)]) (g := (gName 1)) (tt := tYes) (te := (tCall sp_law_pick [] E0 (tCons (tVar 0) (tCons (tC (.str "abcdefghijklmnopqrstuvwxyz")) tNil)))) rfl sc_law_name.nd (pi_range1 (by rfl) T.range_ (pa_cons (pe_op op_addX pe_int (pe_def (E := E0) d_law_random hr (by decide) pass0 (pa_cons (pv 0) (pa_cons pe_int pa_nil)))) pa_nil)) (blkOk_by (N := ["generator", "turn"]) (sc := defScope s_law_name) (by decide +kernel)) (fun _ _ _ _ _ => (pg_name (i := 1) sc_law_name.nd rfl (Or.inl rfl))) (fun _ _ _ _ _ => pts_nil) (fun _ _ _ _ _ => (pe_def (E := E0) d_law_pick hr (by decide) pass0 (pa_cons (pv 0) (pa_cons pe_str pa_nil)))))))), fun vs Q h => ?_⟩
  refine body_G (n := 0) (k := 1) rfl (fun g ds hl ⟨e, hg⟩ => ?_) vs H Q E h
  subst e
  refine (s_ret (w_join (w_str (⟨rfl, ?_⟩))))
  refine (w_lc (by simp [rho0, List.replicate]) (i_rng1 (w_cons (w_op (w_int (w_callG rfl (w_cons (w_int (w_nil (⟨g, rfl, one0 (by simp [rho0, List.replicate, ng_dat, ng_no]), rfl, ⟨_, rfl, by decide, by decide, hg.le (by decide)⟩, ?_⟩))))))))))
  rintro d g1 ⟨L, r, e, rfl, r0, r1, hs⟩
  cases e
  obtain ⟨k, rfl⟩ := Int.eq_ofNat_of_zero_le r0
  have hg1 : GB 54 g1 := hs.gb (hg.le (by decide))
  refine o_addI (w_nil ⟨_, rfl, by omega, by omega, ?_⟩)
  have en : ((1 : Int) + k).toNat = 1 + k := by omega
  rw [en]
  refine draws (rest := [.no]) (j := 0) (g := g1) (n := 1 + k) (c := 6) (S := Draw (.str "abcdefghijklmnopqrstuvwxyz")) rfl rfl (by omega) (by decide) (hg1.le (by omega)) (fun i g' hi hg' => ?_) fun acc g' hl hS hs' => ?_
  · refine (w_callG rfl (w_cons (w_str (w_nil (⟨g', rfl, one0 (by simp [ng_dat, ng_no]), rfl, ⟨_, rfl, .inr ⟨_, rfl⟩, by decide, by decide, hg'⟩, ?_⟩)))))
    rintro d g2 ⟨x, e, hd, hs2⟩
    cases e
    exact ⟨g2, rfl, hd, hs2⟩
  · obtain ⟨z, rfl, hz⟩ := draw_tx hS
    rw [List.length_map] at hl
    refine ⟨z.map sg, by rw [List.map_map]; rfl, ?_, ?_⟩
    · rw [sum_sgs]
      have : ("" : Str).length = 0 := rfl
      rw [this]
      omega
    · rw [join_sgs]
      refine ⟨g', rfl, ⟨z.toArray⟩, rfl, hz, ?_, ?_, (hs.trans hs').le (by omega)⟩
      · show 1 ≤ z.toArray.size
        simp
        omega
      · show z.toArray.size ≤ 8
        simp
        omega
end
end K81


namespace K81
open PySem PySem.Spec PyProof.Rows L2 DL ErX
open Evl (Ex)
local macro_rules | `(tactic| walk_at "sz") => `(tactic| first | assumption | (rw [sizeLine_eq]; simp only [List.length_cons, List.length_nil, List.length_append, List.length_map, List.length_replicate, List.length_range]; omega) | (rw [sizeLine_eq]; simp; done) | (rw [sizeLine_eq]; simp; omega) | omega)
local macro_rules | `(tactic| walk_at "sh") => `(tactic| first | assumption | exact shaped_int _ | rfl | (exact ty_shaped (by assumption)) | (decide +kernel))
local macro_rules | `(tactic| walk_at "w") => `(tactic| first
  | ((with_reducible refine' w_var ?hv ?_); (case hv => rfl))
  | (with_reducible refine s_seq ?_)
  | (with_reducible refine s_set ?_)
  | (with_reducible refine s_ret ?_)
  | (with_reducible refine s_if ?_)
  | (with_reducible refine s_next ?_)
  | (with_reducible refine x_seq ?_)
  | (with_reducible refine x_if ?_)
  | ((with_reducible refine' w_isi ?_ ?_); decide)
  | (with_reducible refine w_callB ?_)
  | (with_reducible refine w_op ?_)
  | (with_reducible refine w_cons ?_)
  | (with_reducible refine w_nil ?_)
  | (with_reducible refine w_int ?_)
  | (with_reducible refine w_str ?_)
  | (with_reducible refine w_bl ?_)
  | (with_reducible refine w_non ?_)
  | (with_reducible refine w_test ?_)
  | (with_reducible refine w_tB ?_)
  | (with_reducible refine w_and ?_)
  | (with_reducible refine w_or ?_)
  | (with_reducible refine w_not ?_)
  | (with_reducible refine w_andV ?_)
  | (with_reducible refine w_orV ?_)
  | (with_reducible refine w_notV ?_)
  | (with_reducible refine w_if ?_)
  | ((with_reducible refine' w_chain ?hh ?hv); (case hv => rfl))
  | (with_reducible refine w_lst ?_)
  | (with_reducible refine w_tup ?_)
  | (with_reducible refine w_dnew ?_)
  | (with_reducible refine o_addI ?_)
  | (with_reducible refine o_subI ?_)
  | (with_reducible refine o_ltI ?_)
  | (with_reducible refine o_leI ?_)
  | (with_reducible refine o_gtI ?_)
  | (with_reducible refine o_geI ?_)
  | (with_reducible refine o_ltS ?_)
  | (with_reducible refine o_leS ?_)
  | (with_reducible refine o_gtS ?_)
  | (with_reducible refine o_geS ?_)
  | (with_reducible refine o_eqS ?_)
  | (with_reducible refine o_neS ?_)
  | (with_reducible refine o_isN ?_)
  | (with_reducible refine o_notN ?_)
  | (with_reducible refine o_isB ?_)
  | (with_reducible refine c_lenL ?_)
  | (with_reducible refine c_lenT ?_)
  | (with_reducible refine c_int ?_)
  | (with_reducible refine c_intB ?_)
  | (with_reducible refine c_ord ?_)
  | (with_reducible refine c_tupL ?_)
  | (with_reducible refine c_listL ?_)
  | (with_reducible refine c_listT ?_)
  | ((with_reducible refine o_eq ?_ ?_ ?_); (walk_at "sh"); (walk_at "sh"))
  | ((with_reducible refine o_ne ?_ ?_ ?_); (walk_at "sh"); (walk_at "sh"))
  | ((with_reducible refine' o_ixL ?hv ?_); (case hv => rfl))
  | ((with_reducible refine' o_ixT ?hv ?_); (case hv => rfl))
  | ((with_reducible refine o_modI ?_ ?_); (walk_at "sz"))
  | ((with_reducible refine o_addL ?_ ?_); (walk_at "sz"))
  | ((with_reducible refine o_addS ?_ ?_); (walk_at "sz"))
  | ((with_reducible refine o_addT ?_ ?_); (walk_at "sz"))
  | ((with_reducible refine c_lenS ?_ ?_); (walk_at "sz"))
  | refine iteT ?_
  | refine iteF ?_
  | refine And.intro (show _ ≤ sizeLine by walk_at "sz") ?_
  | refine ⟨_, rfl, ?_⟩
  | (refine' o_ixT ?hv ?_; (case hv => rfl))
  | (refine' o_ixL ?hv ?_; (case hv => rfl))
  | refine w_call ?_
  | refine w_callR ?_)
local macro_rules | `(tactic| walk_at "ws") => `(tactic| repeat walk_at "w")

section
variable {P : Program} {w : World} {K : PySem.W.Frag} {mg : Str → Option Value} {base : Heap} {CF CX CT : Addr}
theorem sg_shaped {c : Nat} (hc : c < 0x110000) : SeqAt.shaped (.str (sg c)) = true := (Nz.of (b := false) (Sm.str (W := 1) (z := sg c) (fun y hy => by
    have : y = c := by simpa [sg] using hy
    rw [this]
    exact hc) (Nat.le_refl 1)) (by decide) (by decide)).shaped
theorem esc_fil {es : List (Nat × Str)} {c : Nat} : (es.filter fun e => decide (e.1 = c)).map (fun e => PyData.str e.2) = [] ∧ escT es c = sg c ∨ ∃ t ts, (es.filter fun e => decide (e.1 = c)).map (fun e => PyData.str e.2) = .str t :: ts ∧ escT es c = t := by
  unfold escT
  induction es with
  | nil => exact .inl ⟨rfl, rfl⟩
  | cons e es ih =>
    by_cases h : e.1 = c
    · exact .inr ⟨e.2, (es.filter fun e => decide (e.1 = c)).map (fun e => PyData.str e.2), by simp [h], by simp [h]⟩
    · simpa [h] using ih
abbrev s_law_of_escape : Stmt := top 44
theorem sc_law_of_escape : FnScope ["form", "sign", "found", "one", "text"] ["form", "sign"] (defScope s_law_of_escape) := ⟨rfl, rfl, rfl, by decide +kernel, rfl, by decide +kernel, by decide +kernel⟩
def sp_law_of_escape  : Sp := spD 2 (fun ds => ∃ rs es c, ds = [fD rs es, .str (sg c)] ∧ FormOk rs es ∧ c < 0x110000) (fun ds d => ∃ rs es c, ds = [fD rs es, .str (sg c)] ∧ d = .str (escT es c))
theorem d_law_of_escape (T : Bl mg) (F : FunAt K mg "_law_of_escape" s_law_of_escape)   : Df P w K mg base CX0 1 "_law_of_escape" ["form", "sign"] [] sp_law_of_escape := by
  refine df_of F sc_law_of_escape (spD_len rfl) (fun _ _ _ _ _ _ _ us hl => match us, hl with | [_, _], _ => rfl) fun f cdv A outer s H E hr => ?_
  refine ⟨_, (pss_cons (ps_setLc (i := 2) (own := [("one", 3), ("text", 4)]) (g := (gTup K 2 (gCons (gName 3) (gCons (gName 4) gNil)))) (tt := (tTest (tOp (rEqX false) (tVar 3) (tVar 1)))) (te := (tVar 4)) rfl sc_law_of_escape.nd rfl rfl (sw_true rfl rfl rfl (by decide +kernel)) (pi_any (pe_ix ix_seq (pv 0) pe_int (fun _ _ => rfl))) (blkOk_by (N := ["form", "sign", "found", "one", "text"]) (sc := defScope s_law_of_escape) (by decide +kernel)) (fun _ _ _ _ _ => (pg_tup rfl (pgs_cons (pg_name (i := 3) sc_law_of_escape.nd rfl (Or.inl rfl)) (pgs_cons (pg_name (i := 4) sc_law_of_escape.nd rfl (Or.inl rfl)) pgs_nil)))) (fun _ _ _ _ _ => (pts_one (pt_cmpR (op_eqX hr.units) (pv 3) (pv 1) (nomark _)))) (fun _ _ _ _ _ => (pv 4))) (pss_one (ps_ret (pe_ifExp (pt_cmpR (op_neNil hr.units) (pv 2) (pe_lst pa_nil) (nomark _)) (pe_ix ix_seq (pv 2) pe_int (fun _ _ => rfl)) (pv 1))))), fun vs Q h => ?_⟩
  refine body_D (n := 2) (k := 3) rfl (fun ds hl ⟨rs, es, c, e, o, hc⟩ => ?_) vs H Q E h
  subst e
  refine s_seq (s_set (w_mf2 es (fun e => .str (sg e.1)) (fun e => .str e.2) (fun e => decide (e.1 = c)) (fun e => .str e.2) (by decide) rfl rfl (lineK (by have := o.e12; omega)) ?_ (fun a ha => ?_) (fun a ha _ => ?_) ?_))
  · exact i_anyL (w_op (w_var rfl (w_int (o_ixT (d := .list (es.map eD)) rfl ⟨_, rfl, rfl, rfl⟩))))
  · refine w_test (w_op (w_var rfl (w_var rfl (o_eq (sg_shaped (Nat.lt_trans (okC_lt (o.he a ha).1) (by decide))) (sg_shaped hc) ⟨_, rfl, ?_, rfl⟩))))
    rw [eqv_str, sg, sg, decide_eq_decide.mpr (Iff.of_eq str_inj)]
  · exact w_var rfl ⟨rfl, rfl⟩
  · refine s_ret (w_if (w_test (w_op (w_var rfl (w_lst (w_nil ⟨by decide, o_neNilD ⟨_, rfl, ?_⟩⟩))))))
    rcases esc_fil (es := es) (c := c) with ⟨h1, h2⟩ | ⟨t, ts, h1, h2⟩
    · rw [h1]
      refine iteF (w_var rfl ⟨rs, es, c, rfl, by rw [h2]⟩)
    · rw [h1, decide_eq_false (by simp)]
      refine iteT (w_op (w_var rfl (w_int (o_ixL (atI_nat (j := 0) (v := .str t) rfl) ⟨rs, es, c, rfl, by rw [h2]⟩))))
theorem role_fil {rs : List (Str × Str × Str)} {n : Str} (h : n ∈ rs.map (·.1)) : ∃ ts, (rs.filter fun r => decide (r.1 = n)) = rl rs n :: ts := by
  unfold rl roleOf
  induction rs with
  | nil => simp at h
  | cons r rs ih =>
    by_cases q : r.1 = n
    · exact ⟨rs.filter fun r => decide (r.1 = n), by simp [q]⟩
    · have : n ∈ rs.map (·.1) := by
        rcases List.mem_cons.mp h with z | z
        · exact absurd z.symm q
        · exact z
      simpa [q] using ih this
theorem name_shaped {n : Str} (h : IsName n) : SeqAt.shaped (.str n) = true := (Nz.of (b := false) (Sm.str (W := 8) (z := n) (name_lt h) h.2.1) (by decide) (by decide)).shaped
abbrev s_law_written : Stmt := top 45
theorem sc_law_written : FnScope ["form", "talk", "text", "name", "content", "role", "sign"] ["form", "talk"] (defScope s_law_written) := ⟨rfl, rfl, rfl, by decide +kernel, rfl, by decide +kernel, by decide +kernel⟩
def sp_law_written  : Sp := spD 2 (fun ds => ∃ (rs : List (Str × Str × Str)) (es : List (Nat × Str)) (ms : List (Str × Str)), ds = [fD rs es, .list (ms.map mD)] ∧ FormOk rs es ∧ (∀ m ∈ ms, MsgOk rs m) ∧ Nz true (.list (ms.map mD))) (fun ds d => ∃ (rs : List (Str × Str × Str)) (es : List (Nat × Str)) (ms : List (Str × Str)), ds = [fD rs es, .list (ms.map mD)] ∧ d = .str (wrT rs es ms))
theorem d_law_written (T : Bl mg) (F : FunAt K mg "_law_written" s_law_written)  (d_law_of_escape : Df P w K mg base CX0 1 "_law_of_escape" ["form", "sign"] [] sp_law_of_escape) : Df P w K mg base CX0 2 "_law_written" ["form", "talk"] [] sp_law_written := by
  refine df_of F sc_law_written (spD_len rfl) (fun _ _ _ _ _ _ _ us hl => match us, hl with | [_, _], _ => rfl) fun f cdv A outer s H E hr => ?_
  refine ⟨_, (pss_cons (ps_set (i := 2) sc_law_written.nd rfl (Or.inl rfl) pe_str) (pss_cons (ps_for PassesOwn.never rfl (pi_any (pv 1)) (pg_tup rfl (pgs_cons (pg_name (i := 3) sc_law_written.nd rfl (Or.inr rfl)) (pgs_cons (pg_name (i := 4) sc_law_written.nd rfl (Or.inl rfl)) pgs_nil))) (pss_cons (ps_set (i := 5) sc_law_written.nd rfl (Or.inl rfl) (pe_ix ix_seq (pe_lc (own := [("role", 5)]) (g := (gName 5)) (tt := (tTest (tOp (rEqX false) (tOp (rIx K) (tVar 5) (tC (.int 0))) (tVar 3)))) (te := (tVar 5)) rfl sc_law_written.nd (pi_any (pe_ix ix_seq (pv 0) pe_int (fun _ _ => rfl))) (blkOk_by (N := ["form", "talk", "text", "name", "content", "role", "sign"]) (sc := defScope s_law_written) (by decide +kernel)) (fun _ _ _ _ _ => (pg_name (i := 5) sc_law_written.nd rfl (Or.inl rfl))) (fun _ _ _ _ _ => (pts_one (pt_cmpR (op_eqX hr.units) (pe_ix ix_seq (pv 5) pe_int (fun _ _ => rfl)) (pv 3) (nomark _)))) (fun _ _ _ _ _ => (pv 5))) pe_int (fun _ _ => rfl))) (pss_one (ps_set (i := 2) sc_law_written.nd rfl (Or.inl rfl) (pe_op op_addX (pe_op op_addX (pe_op op_addX (pv 2) (pe_ix ix_seq (pv 5) pe_int (fun _ _ => rfl))) (pe_join pe_str (pe_lc (own := [("sign", 6)]) (g := (gName 6)) (tt := tYes) (te := (tCall sp_law_of_escape [] E0 (tCons (tVar 0) (tCons (tVar 6) tNil)))) rfl sc_law_written.nd (pi_any (pv 4)) (blkOk_by (N := ["form", "talk", "text", "name", "content", "role", "sign"]) (sc := defScope s_law_written) (by decide +kernel)) (fun _ _ _ _ _ => (pg_name (i := 6) sc_law_written.nd rfl (Or.inl rfl))) (fun _ _ _ _ _ => pts_nil) (fun _ _ _ _ _ => (pe_def (E := E0) d_law_of_escape hr (by decide) pass0 (pa_cons (pv 0) (pa_cons (pv 6) pa_nil))))))) (pe_ix ix_seq (pv 5) pe_int (fun _ _ => rfl))))))) (pss_one (ps_ret (pv 2))))), fun vs Q h => ?_⟩
  refine body_D (n := 2) (k := 5) rfl (fun ds hl ⟨rs, es, ms, e, o, hm, hz⟩ => ?_) vs H Q E h
  subst e
  have room : roomM ms ≤ 2400000 := by
    have h := roomM_wt ms
    have w := hz.wt
    simp only [PyData.weight] at w
    omega
  refine s_seq (s_set (w_str (s_seq (s_for (i_anyL (w_var rfl ?_))))))
  refine ⟨_, rfl, fun i ρ => ∃ e3 e4 e5, ρ = [.dat (fD rs es), .dat (.list (ms.map mD)), .dat (.str (wrT rs es (ms.take i))), e3, e4, e5, .no], ⟨.no, .no, .no, rfl⟩, ?_, ?_⟩
  · rintro ρ ⟨e3, e4, e5, rfl⟩
    rw [List.length_map, List.take_length]
    exact s_ret (w_var rfl ⟨rs, es, ms, rfl, rfl⟩)
  · rintro i d ρ hd ⟨e3, e4, e5, rfl⟩
    rw [List.getElem?_map] at hd
    cases q : ms[i]? with
    | none =>
      rw [q] at hd
      cases hd
    | some m =>
      rw [q] at hd
      cases hd
      have hmm := List.mem_of_getElem? q
      have hmz : Nz true (mD m) := hz.itemL (List.mem_map.mpr ⟨m, hmm, rfl⟩)
      have hc : Nz true (.str m.2) := hmz.itemT (by simp)
      obtain ⟨r, hr, er, hrm⟩ := rl_of (hm m hmm).1
      have l0 := wrT_len o (s := "") (ms := ms.take i) fun x hx => hm x (List.mem_of_mem_take hx)
      have l1 := roomM_take ms i
      have l2 := (o.hr r hrm).2.1.2.2
      have l3 := (o.hr r hrm).2.2.2.2
      have l4 := outT_len o m.2
      have l5 := hc.lenS
      have l6 : (wrT rs es (ms.take i)).length ≤ 2400000 := by
        have e0 : ("" : Str).length = 0 := rfl
        unfold wrT
        omega
      refine g_tup rfl (gs_cons (g_name (gs_cons (g_name (gs_nil ?_)))))
      have hn : IsName m.1 := by
        obtain ⟨r', hr', e'⟩ := List.mem_map.mp (hm m hmm).1
        rw [← e']
        exact (o.hr r' hr').1
      refine s_forget 5 (s_seq (s_set (w_op (w_filL rs rD (fun r => decide (r.1 = m.1)) rfl (lineK (by have := o.r6; omega)) (i_anyL (w_op (w_var rfl (w_int (o_ixT (d := .list (rs.map rD)) rfl ⟨_, rfl, rfl, rfl⟩))))) (fun a ha => ?_) rD id (fun a ha _ => w_var rfl ⟨rfl, rfl⟩) ?_))))
      · refine w_test (w_op (w_op (w_var rfl (w_int (o_ixT (d := .str a.1) rfl (w_var rfl (o_eq (name_shaped (o.hr a ha).1) (name_shaped hn) ⟨_, rfl, ?_, rfl⟩)))))))
        rw [eqv_str]
      obtain ⟨ts, ht⟩ := role_fil (hm m hmm).1
      rw [ht, List.map_id, List.map_cons]
      refine w_int (o_ixL (atI_nat (j := 0) (v := rD (rl rs m.1)) rfl) ?_)
      rw [er]
      have zc : ∀ c ∈ m.2.cps.toList, c < 0x110000 := fun c hc => Nat.lt_trans (okC_lt ((hm m hmm).2 c hc)) (by decide)
      refine s_set (w_op (w_op (w_op (w_var rfl (w_op (w_var rfl (w_int (o_ixT (d := .str r.2.1) rfl (o_addS (by rw [sizeLine_eq]; omega) (w_join (w_str ⟨rfl, ?_⟩)))))))))))
      refine w_mapL m.2.cps.toList (fun c => .str (sg c)) PyData.str (escT es) rfl (lineK (by rw [Array.length_toList]; exact l5)) (i_anyS (w_var rfl ⟨_, rfl, rfl, rfl⟩)) (fun c hc => ?_) ?_
      · refine w_call (w_cons (w_var rfl (w_cons (w_var rfl (w_nil ⟨rfl, ⟨_, _, _, rfl, o, zc c hc⟩, ?_⟩)))))
        rintro d ⟨rs', es', c', e, rfl⟩
        simp only [List.cons.injEq, and_true, PyData.str.injEq, sg, str_inj] at e
        obtain ⟨e1, e2⟩ := e
        obtain ⟨_, e3⟩ := fD_inj e1
        subst e2
        subst e3
        exact ⟨rfl, rfl⟩
      refine ⟨m.2.cps.toList.map (escT es), rfl, ?_, ?_⟩
      · have := sum_len4 (escT_len o) m.2.cps.toList
        have e0 : ("" : Str).length = 0 := rfl
        have e1 : m.2.cps.toList.length = m.2.length := by rw [Array.length_toList]; rfl
        rw [e0, Nat.mul_zero]
        omega
      rw [show Txt.join "" (m.2.cps.toList.map (escT es)) = outT es m.2 from rfl]
      refine o_addS (by rw [sizeLine_eq, Str.length_append]; omega) (w_op (w_var rfl (w_int (o_ixT (d := .str r.2.2) rfl (o_addS (by rw [sizeLine_eq, Str.length_append, Str.length_append]; omega) ?_)))))
      have e' : wrT rs es (ms.take (i + 1)) = wrT rs es (ms.take i) ++ r.2.1 ++ outT es m.2 ++ r.2.2 := by
        rw [List.take_succ, q]
        exact (wrT_snoc rs es _ m).trans (by rw [addM, er])
      refine ⟨.dat (.str m.1), .dat (.str m.2), .dat (rD r), ?_⟩
      rw [e']
      rfl
end
end K81


namespace K81
open PySem PySem.Spec PyProof.Rows L2 DL ErX
open Evl (Ex)
local macro_rules | `(tactic| walk_at "sz") => `(tactic| first | assumption | (rw [sizeLine_eq]; simp only [List.length_cons, List.length_nil, List.length_append, List.length_map, List.length_replicate, List.length_range]; omega) | (rw [sizeLine_eq]; simp; done) | (rw [sizeLine_eq]; simp; omega) | omega)
local macro_rules | `(tactic| walk_at "sh") => `(tactic| first | assumption | exact shaped_int _ | rfl | (exact ty_shaped (by assumption)) | (decide +kernel))
local macro_rules | `(tactic| walk_at "w") => `(tactic| first
  | ((with_reducible refine' w_var ?hv ?_); (case hv => rfl))
  | (with_reducible refine s_seq ?_)
  | (with_reducible refine s_set ?_)
  | (with_reducible refine s_ret ?_)
  | (with_reducible refine s_if ?_)
  | (with_reducible refine s_next ?_)
  | (with_reducible refine x_seq ?_)
  | (with_reducible refine x_if ?_)
  | ((with_reducible refine' w_isi ?_ ?_); decide)
  | (with_reducible refine w_callB ?_)
  | (with_reducible refine w_op ?_)
  | (with_reducible refine w_cons ?_)
  | (with_reducible refine w_nil ?_)
  | (with_reducible refine w_int ?_)
  | (with_reducible refine w_str ?_)
  | (with_reducible refine w_bl ?_)
  | (with_reducible refine w_non ?_)
  | (with_reducible refine w_test ?_)
  | (with_reducible refine w_tB ?_)
  | (with_reducible refine w_and ?_)
  | (with_reducible refine w_or ?_)
  | (with_reducible refine w_not ?_)
  | (with_reducible refine w_andV ?_)
  | (with_reducible refine w_orV ?_)
  | (with_reducible refine w_notV ?_)
  | (with_reducible refine w_if ?_)
  | ((with_reducible refine' w_chain ?hh ?hv); (case hv => rfl))
  | (with_reducible refine w_lst ?_)
  | (with_reducible refine w_tup ?_)
  | (with_reducible refine w_dnew ?_)
  | (with_reducible refine o_addI ?_)
  | (with_reducible refine o_subI ?_)
  | (with_reducible refine o_ltI ?_)
  | (with_reducible refine o_leI ?_)
  | (with_reducible refine o_gtI ?_)
  | (with_reducible refine o_geI ?_)
  | (with_reducible refine o_ltS ?_)
  | (with_reducible refine o_leS ?_)
  | (with_reducible refine o_gtS ?_)
  | (with_reducible refine o_geS ?_)
  | (with_reducible refine o_eqS ?_)
  | (with_reducible refine o_neS ?_)
  | (with_reducible refine o_isN ?_)
  | (with_reducible refine o_notN ?_)
  | (with_reducible refine o_isB ?_)
  | (with_reducible refine c_lenL ?_)
  | (with_reducible refine c_lenT ?_)
  | (with_reducible refine c_int ?_)
  | (with_reducible refine c_intB ?_)
  | (with_reducible refine c_ord ?_)
  | (with_reducible refine c_tupL ?_)
  | (with_reducible refine c_listL ?_)
  | (with_reducible refine c_listT ?_)
  | ((with_reducible refine o_eq ?_ ?_ ?_); (walk_at "sh"); (walk_at "sh"))
  | ((with_reducible refine o_ne ?_ ?_ ?_); (walk_at "sh"); (walk_at "sh"))
  | ((with_reducible refine' o_ixL ?hv ?_); (case hv => rfl))
  | ((with_reducible refine' o_ixT ?hv ?_); (case hv => rfl))
  | ((with_reducible refine o_modI ?_ ?_); (walk_at "sz"))
  | ((with_reducible refine o_addL ?_ ?_); (walk_at "sz"))
  | ((with_reducible refine o_addS ?_ ?_); (walk_at "sz"))
  | ((with_reducible refine o_addT ?_ ?_); (walk_at "sz"))
  | ((with_reducible refine c_lenS ?_ ?_); (walk_at "sz"))
  | refine iteT ?_
  | refine iteF ?_
  | refine And.intro (show _ ≤ sizeLine by walk_at "sz") ?_
  | refine ⟨_, rfl, ?_⟩
  | (refine' o_ixT ?hv ?_; (case hv => rfl))
  | (refine' o_ixL ?hv ?_; (case hv => rfl))
  | refine w_call ?_
  | refine w_callR ?_)
local macro_rules | `(tactic| walk_at "ws") => `(tactic| repeat walk_at "w")

section
variable {P : Program} {w : World} {K : PySem.W.Frag} {mg : Str → Option Value} {base : Heap} {CF CX CT : Addr}
theorem AllC.of {s z : Str} (h : AllC s) (t : TxOf s z) : AllC z := fun c hc => h c (t c hc)
theorem msgs_of {rs : List (Str × Str × Str)} {acc : List PyData} (h : ∀ e ∈ acc, ∃ m, e = mD m ∧ MsgOk rs m ∧ m.2.length ≤ 5) : ∃ ms : List (Str × Str), acc = ms.map mD ∧ ∀ m ∈ ms, MsgOk rs m ∧ m.2.length ≤ 5 := by
  induction acc with
  | nil => exact ⟨[], rfl, by simp⟩
  | cons x xs ih =>
    obtain ⟨ms, e, hm⟩ := ih fun e he => h e (List.mem_cons_of_mem _ he)
    obtain ⟨m, e1, h1⟩ := h x List.mem_cons_self
    exact ⟨m :: ms, by rw [e, e1]; rfl, fun q hq => (List.mem_cons.mp hq).elim (fun z => by rw [z]; exact h1) (hm q)⟩
abbrev s_law_talk : Stmt := top 46
theorem sc_law_talk : FnScope ["generator", "form", "signs", "most", "longest", "many", "turn"] ["generator", "form", "signs", "most", "longest"] (defScope s_law_talk) := ⟨rfl, rfl, rfl, by decide +kernel, rfl, by decide +kernel, by decide +kernel⟩
def sp_law_talk  : Sp := spG 4 (fun g ds => ∃ (rs : List (Str × Str × Str)) (es : List (Nat × Str)) (s : Str), ds = [fD rs es, .str s, .int 4, .int 5] ∧ FormOk rs es ∧ AllC s ∧ 0 < s.length ∧ s.length ≤ 100 ∧ GB 600 g) (fun g ds d g' => ∃ (rs : List (Str × Str × Str)) (es : List (Nat × Str)) (s : Str) (ms : List (Str × Str)), ds = [fD rs es, .str s, .int 4, .int 5] ∧ d = .list (ms.map mD) ∧ ms.length ≤ 4 ∧ (∀ m ∈ ms, MsgOk rs m ∧ m.2.length ≤ 5) ∧ GS 600 g g')
theorem d_law_talk (T : Bl mg) (F : FunAt K mg "_law_talk" s_law_talk)  (d_law_pick : Df P w K mg base CX0 3 "_law_pick" ["generator", "things"] [] sp_law_pick) (d_law_random : Df P w K mg base CX0 2 "_law_random" ["generator", "bound"] [] sp_law_random) (d_law_text : Df P w K mg base CX0 4 "_law_text" ["generator", "signs", "least", "most"] [] sp_law_text) : Df P w K mg base CX0 5 "_law_talk" ["generator", "form", "signs", "most", "longest"] [] sp_law_talk := by
  refine df_of F sc_law_talk (spG_len rfl) (fun _ _ _ _ _ _ _ us hl => match us, hl with | [_, _, _, _, _], _ => rfl) fun f cdv A outer s H E hr => ?_
  refine ⟨_, (pss_cons (ps_set (i := 5) sc_law_talk.nd rfl (Or.inl rfl) (pe_def (E := E0) d_law_random hr (by decide) pass0 (pa_cons (pv 0) (pa_cons (pe_op op_addX (pv 3) pe_int) pa_nil)))) (pss_one (ps_ret (pe_lc (own := [("turn", 6)]) (g := (gName 6)) (tt := tYes) (te := (tTup (tCons (tOp (rIx K) (tCall sp_law_pick [] E0 (tCons (tVar 0) (tCons (tOp (rIx K) (tVar 1) (tC (.int 1))) tNil))) (tC (.int 0))) (tCons (tCall sp_law_text [] E0 (tCons (tVar 0) (tCons (tVar 2) (tCons (tC (.int 0)) (tCons (tVar 4) tNil))))) tNil)))) rfl sc_law_talk.nd (pi_range1 (by rfl) T.range_ (pa_cons (pv 5) pa_nil)) (blkOk_by (N := ["generator", "form", "signs", "most", "longest", "many", "turn"]) (sc := defScope s_law_talk) (by decide +kernel)) (fun _ _ _ _ _ => (pg_name (i := 6) sc_law_talk.nd rfl (Or.inl rfl))) (fun _ _ _ _ _ => pts_nil) (fun _ _ _ _ _ => (pe_tup (pa_cons (pe_ix ix_seq (pe_def (E := E0) d_law_pick hr (by decide) pass0 (pa_cons (pv 0) (pa_cons (pe_ix ix_seq (pv 1) pe_int (fun _ _ => rfl)) pa_nil))) pe_int (fun _ _ => rfl)) (pa_cons (pe_def (E := E0) d_law_text hr (by decide) pass0 (pa_cons (pv 0) (pa_cons (pv 2) (pa_cons pe_int (pa_cons (pv 4) pa_nil))))) pa_nil)))))))), fun vs Q h => ?_⟩
  refine body_G (n := 4) (k := 2) rfl (fun g ds hl ⟨rs, es, s, e, o, ha, hs0, hs1, hg⟩ => ?_) vs H Q E h
  subst e
  refine (s_seq (s_set (w_callG rfl (w_cons (w_op (w_var rfl (w_int (o_addI (w_nil (⟨g, rfl, one0 (by simp [rho0, List.replicate, ng_dat, ng_no]), rfl, ⟨_, rfl, by decide, by decide, hg.le (by decide)⟩, ?_⟩))))))))))
  rintro d g1 ⟨L, r, e, rfl, r0, r1, hs⟩
  cases e
  obtain ⟨k, rfl⟩ := Int.eq_ofNat_of_zero_le r0
  have hg1 : GB 594 g1 := hs.gb (hg.le (by decide))
  refine (s_ret (w_lc (by simp [rho0, List.replicate]) (i_rng1 (w_cons (w_var rfl (w_nil (⟨_, rfl, by omega, by omega, ?_⟩)))))))
  rw [Int.toNat_natCast]
  refine draws (rest := [.dat (fD rs es), .dat (.str s), .dat (.int 4), .dat (.int 5), .dat (.int k), .no]) (j := 5) (g := g1) (n := k) (c := 136) (S := fun e => ∃ m, e = mD m ∧ MsgOk rs m ∧ m.2.length ≤ 5) rfl rfl (by omega) (by decide) (hg1.le (by omega)) (fun i g' hi hg' => ?_) fun acc g' hl hS hs' => ?_
  · refine (w_tup (w_cons (w_op (w_callG rfl (w_cons (w_op (w_var rfl (w_int (o_ixT (d := .list (rs.map rD)) rfl (w_nil (⟨g', rfl, one0 (by simp [ng_dat, ng_no]), rfl, ⟨_, rfl, .inl ⟨_, rfl⟩, ?_, ?_, hg'.le (by decide)⟩, ?_⟩)))))))))))
    · show 0 < (rs.map rD).length
      rw [List.length_map]
      exact o.r1
    · show (rs.map rD).length ≤ 1000
      rw [List.length_map]
      have := o.r6
      omega
    rintro d g2 ⟨x, e, hd, hs2⟩
    cases e
    obtain ⟨r, hr, rfl⟩ : ∃ r ∈ rs, d = rD r := by
      rcases hd with ⟨xs, e, hx⟩ | ⟨z, c, e, _⟩
      · cases e
        obtain ⟨r, hr, e⟩ := List.mem_map.mp hx
        exact ⟨r, hr, e.symm⟩
      · cases e
    refine (w_int (o_ixT (d := .str r.1) rfl (w_cons (w_callG rfl (w_cons (w_var rfl (w_cons (w_int (w_cons (w_var rfl (w_nil (⟨g2, rfl, one0 (by simp [ng_dat, ng_no]), rfl, ⟨s, 0, 5, rfl, by decide, by decide, hs0, hs1, hs2.gb (hg'.le (by decide))⟩, ?_⟩))))))))))))
    rintro d g3 ⟨s', a', b', z, e, rfl, tz, _, lz, hs3⟩
    simp only [List.cons.injEq, PyData.str.injEq, PyData.int.injEq, and_true] at e
    obtain ⟨e1, e2, e3⟩ := e
    subst e1
    exact w_nil ⟨(show (2 : Nat) ≤ sizeLine by decide), g3, rfl, ⟨(r.1, z), rfl, ⟨List.mem_map.mpr ⟨r, hr, rfl⟩, ha.of tz⟩, by show z.length ≤ 5; omega⟩, hs2.trans hs3⟩
  · obtain ⟨ms, rfl, hm⟩ := msgs_of hS
    rw [List.length_map] at hl
    exact ⟨g', rfl, rs, es, s, ms, rfl, rfl, by omega, hm, (hs.trans hs').le (by omega)⟩
theorem perm_sgs {l : List Nat} {ys : List Str} (h : ys.Perm (l.map sg)) : ∃ cs : List Nat, ys = cs.map sg ∧ cs.Perm l := by
  let un : Str → Nat := fun y => y.cps.toList.headD 0
  have us : ∀ c, un (sg c) = c := fun c => rfl
  refine ⟨ys.map un, ?_, ?_⟩
  · rw [List.map_map]
    refine (List.map_id ys).symm.trans (List.map_congr_left fun y hy => ?_)
    obtain ⟨c, _, e⟩ := List.mem_map.mp (h.mem_iff.mp hy)
    rw [← e]
    rfl
  · have := h.map un
    rw [List.map_map] at this
    exact this.trans (by rw [show (un ∘ sg) = id from rfl, List.map_id])
theorem rise_sgs : ∀ {a : Nat} {cs : List Nat}, PyProof.Rows.risingS (sg a) (cs.map sg) = true → (a :: cs).Pairwise (· ≤ ·)
  | a, [], _ => by simp
  | a, b :: cs, h => by
    have h1 : (!ltCps (sg b).cps.toList (sg a).cps.toList && PyProof.Rows.risingS (sg b) (cs.map sg)) = true := h
    rw [Bool.and_eq_true] at h1
    have ih := rise_sgs h1.2
    have hab : a ≤ b := by
      have := h1.1
      rw [show (sg b).cps.toList = [b] from rfl, show (sg a).cps.toList = [a] from rfl] at this
      simp [ltCps] at this
      omega
    refine List.pairwise_cons.mpr ⟨fun x hx => ?_, ih⟩
    rcases List.mem_cons.mp hx with q | q
    · omega
    · have := (List.pairwise_cons.mp ih).1 x q
      omega
theorem sort_sgs {cs : List Nat} (h : PyProof.Rows.sortedS (cs.map sg) = true) (nd : cs.Nodup) : cs.Pairwise (· < ·) := by
  have : cs.Pairwise (· ≤ ·) := by
    cases cs with
    | nil => exact .nil
    | cons a cs => exact rise_sgs h
  clear h
  induction cs with
  | nil => exact .nil
  | cons a cs ih =>
    obtain ⟨h1, h2⟩ := List.pairwise_cons.mp this
    obtain ⟨d1, d2⟩ := List.nodup_cons.mp nd
    refine List.pairwise_cons.mpr ⟨fun x hx => ?_, ih d2 h2⟩
    have a1 := h1 x hx
    have b1 : a ≠ x := fun z => d1 (z ▸ hx)
    omega
theorem any_str (ns : List Str) (n : Str) : ((ns.map PyData.str).any fun z => PyData.eqv z (.str n)) = decide (n ∈ ns) := by
  induction ns with
  | nil => simp
  | cons x xs ih =>
    rw [List.map_cons, List.any_cons, ih, eqv_str]
    by_cases h : x = n
    · subst h
      simp
    · have : ¬ n = x := fun z => h z.symm
      simp [h, this]
theorem name_of {z : Str} (t : TxOf "abcdefghijklmnopqrstuvwxyz" z) (h1 : 1 ≤ z.length) (h2 : z.length ≤ 8) : IsName z := ⟨h1, h2, fun c hc => by
  have key : ∀ c ∈ ("abcdefghijklmnopqrstuvwxyz" : Str).cps.toList, smC c = true := by decide
  exact key c (t c hc)⟩
theorem names_shaped {ns : List Str} (hn : ns.length ≤ 10) (h : ∀ n ∈ ns, IsName n) : SeqAt.shaped (.list (ns.map PyData.str)) = true := (Nz.of (b := false) (Sm.list (D := 0) (W := 8) (n := 10) (fun x hx => by
  obtain ⟨n, hn, rfl⟩ := List.mem_map.mp hx
  exact Sm.str (name_lt (h n hn)) (h n hn).2.1) (by rw [List.length_map]; exact hn)) (by decide) (by decide)).shaped
abbrev s_law_form : Stmt := top 43
theorem sc_law_form : FnScope ["generator", "signs", "most", "longest", "roles", "turn", "name", "escapes", "sign", "role"] ["generator", "signs", "most", "longest"] (defScope s_law_form) := ⟨rfl, rfl, rfl, by decide +kernel, rfl, by decide +kernel, by decide +kernel⟩
def sp_law_form  : Sp := spG 3 (fun g ds => ∃ s : Str, ds = [.str s, .int 3, .int 3] ∧ AllC s ∧ s.cps.toList.Nodup ∧ 0 < s.length ∧ s.length ≤ 10 ∧ GB 2400 g) (fun g ds d g' => ∃ (rs : List (Str × Str × Str)) (es : List (Nat × Str)), d = fD rs es ∧ FormOk rs es ∧ GS 2400 g g')
theorem d_law_form (T : Bl mg) (F : FunAt K mg "_law_form" s_law_form)  (d_law_name : Df P w K mg base CX0 4 "_law_name" ["generator"] [] sp_law_name) (d_law_random : Df P w K mg base CX0 2 "_law_random" ["generator", "bound"] [] sp_law_random) (d_law_text : Df P w K mg base CX0 4 "_law_text" ["generator", "signs", "least", "most"] [] sp_law_text) : Df P w K mg base CX0 5 "_law_form" ["generator", "signs", "most", "longest"] [] sp_law_form := by
  refine df_of F sc_law_form (spG_len rfl) (fun _ _ _ _ _ _ _ us hl => match us, hl with | [_, _, _, _], _ => rfl) fun f cdv A outer s H E hr => ?_
  refine ⟨_, (pss_cons (ps_set (i := 4) sc_law_form.nd rfl (Or.inl rfl) (pe_lst pa_nil)) (pss_cons (ps_for PassesOwn.never rfl (pi_range1 (by rfl) T.range_ (pa_cons (pe_op op_addX pe_int (pe_def (E := E0) d_law_random hr (by decide) pass0 (pa_cons (pv 0) (pa_cons (pv 2) pa_nil)))) pa_nil)) (pg_name (i := 5) sc_law_form.nd rfl (Or.inl rfl)) (pss_cons (ps_set (i := 6) sc_law_form.nd rfl (Or.inl rfl) (pe_def (E := E0) d_law_name hr (by decide) pass0 (pa_cons (pv 0) pa_nil))) (pss_one (ps_if (pt_cmpR (op_notInA (un65 hr)) (pv 6) (pe_lc (own := [("role", 9)]) (g := (gName 9)) (tt := tYes) (te := (tOp (rIx K) (tVar 9) (tC (.int 0)))) rfl sc_law_form.nd (pi_any (pv 4)) (blkOk_by (N := ["generator", "signs", "most", "longest", "roles", "turn", "name", "escapes", "sign", "role"]) (sc := defScope s_law_form) (by decide +kernel)) (fun _ _ _ _ _ => (pg_name (i := 9) sc_law_form.nd rfl (Or.inl rfl))) (fun _ _ _ _ _ => pts_nil) (fun _ _ _ _ _ => (pe_ix ix_seq (pv 9) pe_int (fun _ _ => rfl)))) (by rfl)) (pss_one (ps_expr (pe_bm PySem.F.plainAttrs_list PySem.F.slot_list_append PySem.F.type_list_append mt_append (pv 4) (pa_cons (pe_tup (pa_cons (pv 6) (pa_cons (pe_def (E := E0) d_law_text hr (by decide) pass0 (pa_cons (pv 0) (pa_cons (pv 1) (pa_cons pe_int (pa_cons (pv 3) pa_nil))))) (pa_cons (pe_def (E := E0) d_law_text hr (by decide) pass0 (pa_cons (pv 0) (pa_cons (pv 1) (pa_cons pe_int (pa_cons (pv 3) pa_nil))))) pa_nil)))) pa_nil)))) pss_nil)))) (pss_cons (ps_setLc (i := 7) (own := [("sign", 8)]) (g := (gName 8)) (tt := (tTest (tOp (rEqX false) (tCall sp_law_random [] E0 (tCons (tVar 0) (tCons (tC (.int 3)) tNil))) (tC (.int 0))))) (te := (tTup (tCons (tVar 8) (tCons (tCall sp_law_text [] E0 (tCons (tVar 0) (tCons (tVar 1) (tCons (tC (.int 1)) (tCons (tC (.int 2)) tNil))))) tNil)))) rfl sc_law_form.nd rfl rfl (sw_true rfl rfl rfl (by decide +kernel)) (pi_any (pe_callB (call_sortTx rfl) (by rfl) T.sorted_ (by rfl) (pa_cons (pv 1) pa_nil))) (blkOk_by (N := ["generator", "signs", "most", "longest", "roles", "turn", "name", "escapes", "sign", "role"]) (sc := defScope s_law_form) (by decide +kernel)) (fun _ _ _ _ _ => (pg_name (i := 8) sc_law_form.nd rfl (Or.inl rfl))) (fun _ _ _ _ _ => (pts_one (pt_cmpR (op_eqX hr.units) (pe_def (E := E0) d_law_random hr (by decide) pass0 (pa_cons (pv 0) (pa_cons pe_int pa_nil))) pe_int (nomark _)))) (fun _ _ _ _ _ => (pe_tup (pa_cons (pv 8) (pa_cons (pe_def (E := E0) d_law_text hr (by decide) pass0 (pa_cons (pv 0) (pa_cons (pv 1) (pa_cons pe_int (pa_cons pe_int pa_nil))))) pa_nil))))) (pss_one (ps_ret (pe_tup (pa_cons pe_str (pa_cons (pv 4) (pa_cons (pv 7) pa_nil))))))))), fun vs Q h => ?_⟩
  refine body_G (n := 3) (k := 6) rfl (fun g ds hl ⟨s, e, ha, nd, hs0, hs1, hg⟩ => ?_) vs H Q E h
  subst e
  refine (s_seq (s_setO (wO_lst (w_nil ⟨by decide, ?_⟩))))
  refine (s_seq (s_for (i_rng1 (w_cons (w_op (w_int (w_callG rfl (w_cons (w_var rfl (w_nil (⟨g, rfl, ?_, rfl, ⟨_, rfl, by decide, by decide, hg.le (by decide)⟩, ?_⟩)))))))))))
  · exact one0 (by simp [rho0, List.replicate, ng_dat, ng_no, ng_own])
  rintro d g1 ⟨L, r, e, rfl, r0, r1, hs⟩
  cases e
  obtain ⟨k, rfl⟩ := Int.eq_ofNat_of_zero_le r0
  have hg1 : GB 2394 g1 := hs.gb (hg.le (by decide))
  refine o_addI (w_nil ⟨_, rfl, by omega, by omega, ?_⟩)
  have en : ((1 : Int) + k).toNat = 1 + k := by omega
  rw [en]
  refine ⟨fun i ρ => ∃ (rs : List (Str × Str × Str)) (g' : Gn) (e5 e6 : Ent), ρ = [.gen g', .dat (.str s), .dat (.int 3), .dat (.int 3), .own (rs.map rD), e5, e6, .no, .no, .no] ∧ e5.ng ∧ e6.ng ∧ rs.length ≤ i ∧ (i = 0 ∨ 1 ≤ rs.length) ∧ (∀ r ∈ rs, RoleOk r) ∧ (rs.map (·.1)).Nodup ∧ GS (320 * i) g1 g', ⟨[], g1, .no, .no, rfl, ng_no, ng_no, by simp, .inl rfl, by simp, by simp, by simpa using hg1.refl⟩, ?_, ?_⟩
  · rintro ρ ⟨rs, g2, e5, e6, rfl, n5, n6, l1, l2, hr, hn, hs2⟩
    rw [rngD_len] at l1 l2 hs2
    have hg2 : GB 1400 g2 := (hs2.le (show 320 * ((1 + k : Nat) : Int) ≤ 960 by omega)).gb (hg1.le (by decide))
    refine s_lay (i := 4) rfl (s_seq (s_set (w_lc (by simp) (i_anyL (w_callB (w_cons (w_var rfl (w_nil (c_sortTx (by omega) fun ys pm st => ⟨_, rfl, ?_⟩)))))))))
    obtain ⟨cs, rfl, pc⟩ := perm_sgs pm
    have up := sort_sgs st (pc.nodup_iff.mpr nd)
    have cl : cs.length = s.length := by
      rw [pc.length_eq, Array.length_toList]
      rfl
    refine ⟨fun i acc ρ => ∃ (es : List (Nat × Str)) (g' : Gn), ρ = [.gen g', .dat (.str s), .dat (.int 3), .dat (.int 3), .dat (.list (rs.map rD)), e5, e6, .no, .no, .no] ∧ acc = es.map eD ∧ (es.map (·.1)).Sublist (cs.take i) ∧ (∀ e ∈ es, EscOk e) ∧ GS (136 * i) g2 g', ⟨[], g2, rfl, rfl, by simp, by simp, by simpa using hg2.refl⟩, ?_, ?_⟩
    · rintro acc ρ ⟨es, g3, rfl, rfl, sb, he, hs3⟩
      rw [List.length_map, List.length_map] at sb hs3
      rw [List.take_length] at sb
      refine (s_ret (w_tup (w_cons (w_str (w_cons (w_var rfl (w_cons (w_var rfl (w_nil ⟨(show (3 : Nat) ≤ sizeLine by decide), g3, rfl, rs, es, rfl, ⟨?_, by omega, ?_, hr, he, hn, up.sublist sb⟩, ?_⟩)))))))))
      · rcases l2 with q | q
        · omega
        · exact q
      · have := sb.length_le
        rw [List.length_map] at this
        omega
      · exact ((hs.trans hs2).trans hs3).le (by omega)
    · rintro i d acc ρ hd ⟨es, g3, rfl, rfl, sb, he, hs3⟩
      rw [List.map_map, List.getElem?_map] at hd
      cases q : cs[i]? with
      | none =>
        rw [q] at hd
        cases hd
      | some c =>
        rw [q] at hd
        cases hd
        have hi : i < cs.length := (List.getElem?_eq_some_iff.mp q).1
        have hg3 : GB 136 g3 := hs3.gb (hg2.le (by omega))
        have tk : cs.take (i + 1) = cs.take i ++ [c] := by
          rw [List.take_succ, q]
          rfl
        have hc : okC c = true := ha c (pc.mem_iff.mp (List.mem_of_getElem? q))
        have hel : es.length ≤ 10 := by
          have := sb.length_le
          rw [List.length_map, List.length_take] at this
          omega
        refine gc_name (w_test (w_op (w_callG rfl (w_cons (w_int (w_nil (⟨g3, rfl, one0 (by simp [ng_dat, ng_no, n5, n6]), rfl, ⟨_, rfl, by decide, by decide, hg3.le (by decide)⟩, ?_⟩)))))))
        rintro d g4 ⟨L, r, e, rfl, r0, r1, hs4⟩
        cases e
        refine w_int (o_eq (shaped_int _) (shaped_int _) ⟨_, rfl, iteB (fun h => ?_) fun h => ?_⟩)
        · refine (w_tup (w_cons (w_var rfl (w_cons (w_callG rfl (w_cons (w_var rfl (w_cons (w_int (w_cons (w_int (w_nil (⟨g4, rfl, one0 (by simp [ng_dat, ng_no, n5, n6]), rfl, ⟨s, 1, 2, rfl, by decide, by decide, hs0, by omega, hs4.gb (hg3.le (by decide))⟩, ?_⟩)))))))))))))
          rintro d g5 ⟨s', a', b', z, e, rfl, tz, z1, z2, hs5⟩
          simp only [List.cons.injEq, PyData.str.injEq, PyData.int.injEq, and_true] at e
          obtain ⟨e1, e2, e3⟩ := e
          subst e1
          refine w_nil ⟨(show (2 : Nat) ≤ sizeLine by decide), by rw [List.length_map, sizeLine_eq]; omega, es ++ [(c, z)], g5, rfl, by rw [List.map_append]; rfl, ?_, fun e he' => ?_, ?_⟩
          · rw [tk, List.map_append]
            exact sb.append (List.Sublist.refl _)
          · rcases List.mem_append.mp he' with q | q
            · exact he e q
            · rw [List.mem_singleton.mp q]
              exact ⟨hc, ha.of tz, by show 1 ≤ z.length; omega, by show z.length ≤ 4; omega⟩
          · exact (hs3.trans (hs4.trans hs5)).le (by omega)
        · refine ⟨es, g4, rfl, rfl, ?_, he, (hs3.trans hs4).le (by omega)⟩
          rw [tk]
          exact sb.trans (List.sublist_append_left _ _)
  · rintro i d ρ hd ⟨rs, g2, e5, e6, rfl, n5, n6, l1, l2, hr, hn, hs2⟩
    obtain ⟨hi, rfl⟩ := rng0_get' hd
    have hg2 : GB 320 g2 := hs2.gb (hg1.le (by omega))
    refine (g_name (s_seq (s_set (w_callG rfl (w_nil (⟨g2, rfl, one0 (by simp [ng_dat, ng_no, ng_own, n6]), rfl, ⟨rfl, hg2.le (by decide)⟩, ?_⟩))))))
    rintro d g3 ⟨n, rfl, tn, n1, n2, hs3⟩
    have hg3 : GB 260 g3 := hs3.gb (hg2.le (by decide))
    have nm := name_of tn n1 n2
    refine s_if (w_thawT (i := 4) rfl (w_test (w_op (w_var rfl (w_mapL rs rD PyData.str (·.1) rfl (lineK (by omega)) (i_anyL (w_var rfl ⟨_, rfl, rfl, rfl⟩)) (fun a ha => w_op (w_var rfl (w_int (o_ixT (d := .str a.1) rfl ⟨rfl, rfl⟩)))) (o_notInA (name_shaped nm) (names_shaped (by rw [List.length_map]; omega) fun x hx => ?_) ⟨_, rfl, ?_⟩))))))
    · obtain ⟨r, hr', rfl⟩ := List.mem_map.mp hx
      exact (hr r hr').1
    rw [any_str]
    refine iteB (fun h => ?_) fun h => ?_
    · refine (s_app (i := 4) rfl (w_tup (w_cons (w_var rfl (w_cons (w_callG rfl (w_cons (w_var rfl (w_cons (w_int (w_cons (w_var rfl (w_nil (⟨g3, rfl, one0 (by simp [ng_dat, ng_no, ng_own]), rfl, ⟨s, 1, 3, rfl, by decide, by decide, hs0, by omega, hg3.le (by decide)⟩, ?_⟩))))))))))))))
      rintro d g4 ⟨s', a', b', z, e, rfl, tz, z1, z2, hs4⟩
      simp only [List.cons.injEq, PyData.str.injEq, PyData.int.injEq, and_true] at e
      obtain ⟨e1, e2, e3⟩ := e
      subst e1
      refine (w_cons (w_callG rfl (w_cons (w_var rfl (w_cons (w_int (w_cons (w_var rfl (w_nil (⟨g4, rfl, one0 (by simp [ng_dat, ng_no, ng_own]), rfl, ⟨s, 1, 3, rfl, by decide, by decide, hs0, by omega, hs4.gb (hg3.le (by decide))⟩, ?_⟩))))))))))
      rintro d g5 ⟨s', a'', b'', y, e, rfl, ty, y1, y2, hs5⟩
      simp only [List.cons.injEq, PyData.str.injEq, PyData.int.injEq, and_true] at e
      obtain ⟨e1, e4, e5'⟩ := e
      subst e1
      refine w_nil ⟨(show (3 : Nat) ≤ sizeLine by decide), by rw [List.length_map, sizeLine_eq]; omega, rs ++ [(n, z, y)], g5, _, _, by rw [List.map_append]; rfl, ng_dat, ng_dat, ?_, ?_, fun r hr' => ?_, ?_, ?_⟩
      · rw [List.length_append, List.length_singleton]
        omega
      · rw [List.length_append, List.length_singleton]
        omega
      · rcases List.mem_append.mp hr' with q | q
        · exact hr r q
        · rw [List.mem_singleton.mp q]
          exact ⟨nm, ⟨ha.of tz, by show 1 ≤ z.length; omega, by show z.length ≤ 12; omega⟩, ha.of ty, by show 1 ≤ y.length; omega, by show y.length ≤ 12; omega⟩
      · rw [List.map_append, List.nodup_append]
        refine ⟨hn, by simp, fun a hA b hB => ?_⟩
        have : b = n := by simpa using hB
        subst this
        intro z
        subst z
        simp [hA] at h
      · exact (hs2.trans (hs3.trans (hs4.trans hs5))).le (by omega)
    · refine s_next ⟨rs, g3, _, _, rfl, ng_dat, ng_dat, by omega, .inr ?_, hr, hn, (hs2.trans hs3).le (by omega)⟩
      cases rs with
      | nil => simp at h
      | cons r rs => simp
end
end K81


namespace K81
open PySem PySem.Spec PyProof.Rows L2 DL ErX
open Evl (Ex)
local macro_rules | `(tactic| walk_at "sz") => `(tactic| first | assumption | (rw [sizeLine_eq]; simp only [List.length_cons, List.length_nil, List.length_append, List.length_map, List.length_replicate, List.length_range]; omega) | (rw [sizeLine_eq]; simp; done) | (rw [sizeLine_eq]; simp; omega) | omega)
local macro_rules | `(tactic| walk_at "sh") => `(tactic| first | assumption | exact shaped_int _ | rfl | (exact ty_shaped (by assumption)) | (decide +kernel))
local macro_rules | `(tactic| walk_at "w") => `(tactic| first
  | ((with_reducible refine' w_var ?hv ?_); (case hv => rfl))
  | (with_reducible refine s_seq ?_)
  | (with_reducible refine s_set ?_)
  | (with_reducible refine s_ret ?_)
  | (with_reducible refine s_if ?_)
  | (with_reducible refine s_next ?_)
  | (with_reducible refine x_seq ?_)
  | (with_reducible refine x_if ?_)
  | ((with_reducible refine' w_isi ?_ ?_); decide)
  | (with_reducible refine w_callB ?_)
  | (with_reducible refine w_op ?_)
  | (with_reducible refine w_cons ?_)
  | (with_reducible refine w_nil ?_)
  | (with_reducible refine w_int ?_)
  | (with_reducible refine w_str ?_)
  | (with_reducible refine w_bl ?_)
  | (with_reducible refine w_non ?_)
  | (with_reducible refine w_test ?_)
  | (with_reducible refine w_tB ?_)
  | (with_reducible refine w_and ?_)
  | (with_reducible refine w_or ?_)
  | (with_reducible refine w_not ?_)
  | (with_reducible refine w_andV ?_)
  | (with_reducible refine w_orV ?_)
  | (with_reducible refine w_notV ?_)
  | (with_reducible refine w_if ?_)
  | ((with_reducible refine' w_chain ?hh ?hv); (case hv => rfl))
  | (with_reducible refine w_lst ?_)
  | (with_reducible refine w_tup ?_)
  | (with_reducible refine w_dnew ?_)
  | (with_reducible refine o_addI ?_)
  | (with_reducible refine o_subI ?_)
  | (with_reducible refine o_ltI ?_)
  | (with_reducible refine o_leI ?_)
  | (with_reducible refine o_gtI ?_)
  | (with_reducible refine o_geI ?_)
  | (with_reducible refine o_ltS ?_)
  | (with_reducible refine o_leS ?_)
  | (with_reducible refine o_gtS ?_)
  | (with_reducible refine o_geS ?_)
  | (with_reducible refine o_eqS ?_)
  | (with_reducible refine o_neS ?_)
  | (with_reducible refine o_isN ?_)
  | (with_reducible refine o_notN ?_)
  | (with_reducible refine o_isB ?_)
  | (with_reducible refine c_lenL ?_)
  | (with_reducible refine c_lenT ?_)
  | (with_reducible refine c_int ?_)
  | (with_reducible refine c_intB ?_)
  | (with_reducible refine c_ord ?_)
  | (with_reducible refine c_tupL ?_)
  | (with_reducible refine c_listL ?_)
  | (with_reducible refine c_listT ?_)
  | ((with_reducible refine o_eq ?_ ?_ ?_); (walk_at "sh"); (walk_at "sh"))
  | ((with_reducible refine o_ne ?_ ?_ ?_); (walk_at "sh"); (walk_at "sh"))
  | ((with_reducible refine' o_ixL ?hv ?_); (case hv => rfl))
  | ((with_reducible refine' o_ixT ?hv ?_); (case hv => rfl))
  | ((with_reducible refine o_modI ?_ ?_); (walk_at "sz"))
  | ((with_reducible refine o_addL ?_ ?_); (walk_at "sz"))
  | ((with_reducible refine o_addS ?_ ?_); (walk_at "sz"))
  | ((with_reducible refine o_addT ?_ ?_); (walk_at "sz"))
  | ((with_reducible refine c_lenS ?_ ?_); (walk_at "sz"))
  | refine iteT ?_
  | refine iteF ?_
  | refine And.intro (show _ ≤ sizeLine by walk_at "sz") ?_
  | refine ⟨_, rfl, ?_⟩
  | (refine' o_ixT ?hv ?_; (case hv => rfl))
  | (refine' o_ixL ?hv ?_; (case hv => rfl))
  | refine w_call ?_
  | refine w_callR ?_)
local macro_rules | `(tactic| walk_at "ws") => `(tactic| repeat walk_at "w")

section
variable {P : Program} {w : World} {K : PySem.W.Frag} {mg : Str → Option Value} {base : Heap} {CF CX CT : Addr}
def TxIn (a b : Nat) (x : PyData) : Prop := ∃ z, x = .str z ∧ AllC z ∧ a ≤ z.length ∧ z.length ≤ b
abbrev s_law_is_text : Stmt := top 48
theorem sc_law_is_text : FnScope ["value", "least", "most", "sign"] ["value", "least", "most"] (defScope s_law_is_text) := ⟨rfl, rfl, rfl, by decide +kernel, rfl, by decide +kernel, by decide +kernel⟩
def sp_law_is_text  : Sp := spD 3 (fun ds => ∃ (x : PyData) (a b : Nat), ds = [x, .int a, .int b] ∧ Nz true x) (fun ds d => ∃ (x : PyData) (a b : Nat) (k : Bool), ds = [x, .int a, .int b] ∧ d = .bool k ∧ (k = true ↔ TxIn a b x))
theorem d_law_is_text (T : Bl mg) (F : FunAt K mg "_law_is_text" s_law_is_text)   : Df P w K mg base CX0 1 "_law_is_text" ["value", "least", "most"] [] sp_law_is_text := by
  refine df_of F sc_law_is_text (spD_len rfl) (fun _ _ _ _ _ _ _ us hl => match us, hl with | [_, _, _], _ => rfl) fun f cdv A outer s H E hr => ?_
  refine ⟨_, (pss_cons (ps_if (PW.pt (pw_or (pt_not (pt_val (pe_callB call_isi (by rfl) T.isinstance_ (by rfl) (pa_cons (pv 0) (pa_cons (pe_bltn (v := .ty "str") (by rfl) T.str_ (by rfl) rfl) pa_nil))))) (pw_or1 (pt_not (pt_chain op_leX op_leX (pv 1) (pe_callB call_lenX (by rfl) T.len_ (by rfl) (pa_cons (pv 0) pa_nil)) (pv 2)))))) (pss_one (ps_ret pe_bl)) pss_nil) (pss_one (ps_ret (pe_cmpR (op_eqNil hr.units) (pe_lc (own := [("sign", 3)]) (g := (gName 3)) (tt := (tAnd (tTest (tOp (rEqX true) (tVar 3) (tC (.str "\n")))) (tNot (tTest (tChain rLeX rLeX (tC (.int 32)) (tCB rOrd (tCons (tVar 3) tNil)) (tC (.int 126))))))) (te := (tVar 3)) rfl sc_law_is_text.nd (pi_any (pv 0)) (blkOk_by (N := ["value", "least", "most", "sign"]) (sc := defScope s_law_is_text) (by decide +kernel)) (fun _ _ _ _ _ => (pg_name (i := 3) sc_law_is_text.nd rfl (Or.inl rfl))) (fun _ _ _ _ _ => (pts_one (PW.pt (pw_and (pt_cmpR (op_neX hr.units) (pv 3) pe_str (nomark _)) (pw_and1 (pt_not (pt_chain op_leX op_leX pe_int (pe_callB call_ordX (by rfl) T.ord_ (by rfl) (pa_cons (pv 3) pa_nil)) pe_int))))))) (fun _ _ _ _ _ => (pv 3))) (pe_lst pa_nil) (nomark _))))), fun vs Q h => ?_⟩
  refine body_D (n := 3) (k := 1) rfl (fun ds hl ⟨x, a, b, e, hx⟩ => ?_) vs H Q E h
  subst e
  have no : ¬ TxIn a b x → ∃ (x' : PyData) (a' b' : Nat) (k : Bool), [x, PyData.int a, PyData.int b] = [x', .int a', .int b'] ∧ PyData.bool false = .bool k ∧ (k = true ↔ TxIn a' b' x') := fun h => ⟨x, a, b, _, rfl, rfl, ff h⟩
  walk_at "ws"
  refine iteN (fun h0 => ?_) fun h0 => ?_
  · exact s_ret (w_bl (no fun ⟨z, e, _⟩ => by rw [e] at h0; cases h0))
  obtain ⟨z, rfl⟩ := is_str h0
  have hz := line5 hx.lenS
  walk_at "ws"
  refine iteB (fun h1 => ?_) fun h1 => ?_
  rotate_left
  · rw [decide_eq_false_iff_not] at h1
    walk_at "ws"
    exact no fun ⟨z', e, _, h, _⟩ => h1 (by cases e; omega)
  rw [decide_eq_true_eq] at h1
  walk_at "ws"
  refine iteN (fun h2 => ?_) fun h2 => ?_
  · rw [decide_eq_false_iff_not] at h2
    exact s_ret (w_bl (no fun ⟨z', e, _, _, h⟩ => h2 (by cases e; omega)))
  rw [decide_eq_true_eq] at h2
  refine s_next (s_ret (w_op (w_filD (sgs z) (fun d => match d with
      | .str y => y.cps.toList.any fun c => !okC c
      | _ => false) rfl (line5 (by rw [len_sgs]; exact hx.lenS)) (i_anyS (w_var rfl ⟨_, rfl, rfl, rfl⟩)) (fun y hy => ?_) ?_)))
  · obtain ⟨c, hc, rfl⟩ := List.mem_map.mp hy
    have hs := (hx.sg hc).shaped
    refine w_and (w_test (w_op (w_var rfl (w_str (o_ne hs (by decide +kernel) ⟨_, rfl, ?_⟩)))))
    rw [eqv_str, show decide ((⟨#[c]⟩ : Str) = "\n") = decide (c = 10) by
      congr 1
      rw [show ("\n" : Str) = ⟨#[10]⟩ from rfl, str_inj]]
    have ek : ∀ q : Bool, q = (!okC c) → q = (match (PyData.str ⟨#[c]⟩) with
      | .str y => y.cps.toList.any fun c => !okC c
      | _ => false) ∧ True := fun q e => by
      subst e
      simp
    refine iteN (fun h => ?_) fun h => ?_
    · refine w_not (w_test (w_chain (w_int (w_callB (w_cons (w_var rfl (w_nil (c_ord (o_leI ⟨_, rfl, ?_⟩)))))))))
      rw [decide_eq_false_iff_not] at h
      refine iteB (fun h3 => ?_) fun h3 => ?_
      · refine w_int (o_leI ⟨_, rfl, (ek _ ?_).1, rfl⟩)
        rw [decide_eq_true_eq] at h3
        have : decide (32 ≤ c) = true := by simp; omega
        rw [okC, this, decide_eq_false h]
        simp
        omega
      · refine ⟨_, rfl, (ek _ ?_).1, rfl⟩
        rw [decide_eq_false_iff_not] at h3
        have : decide (32 ≤ c) = false := by simp; omega
        rw [okC, this, decide_eq_false h]
        rfl
    · rw [decide_eq_true_eq] at h
      refine ⟨(ek _ ?_).1, rfl⟩
      rw [okC, decide_eq_true h, Bool.or_true]
      rfl
  · refine w_lst (w_nil ⟨by decide, o_eqNil ⟨_, a, b, _, rfl, rfl, ?_⟩⟩)
    rw [decide_eq_true_eq, List.filter_eq_nil_iff]
    unfold sgs TxIn AllC
    constructor
    · intro h
      refine ⟨z, rfl, fun c hc => ?_, by omega, by omega⟩
      have := h (.str ⟨#[c]⟩) (List.mem_map.mpr ⟨c, hc, rfl⟩)
      simpa using this
    · rintro ⟨z', e, h, _⟩ y hy
      cases e
      obtain ⟨c, hc, rfl⟩ := List.mem_map.mp hy
      simp [h c hc]
end
end K81


namespace K81
open PySem PySem.Spec PyProof.Rows L2 DL ErX
open Evl (Ex)
local macro_rules | `(tactic| walk_at "sz") => `(tactic| first | assumption | (rw [sizeLine_eq]; simp only [List.length_cons, List.length_nil, List.length_append, List.length_map, List.length_replicate, List.length_range]; omega) | (rw [sizeLine_eq]; simp; done) | (rw [sizeLine_eq]; simp; omega) | omega)
local macro_rules | `(tactic| walk_at "sh") => `(tactic| first | assumption | exact shaped_int _ | rfl | (exact ty_shaped (by assumption)) | (decide +kernel))
local macro_rules | `(tactic| walk_at "w") => `(tactic| first
  | ((with_reducible refine' w_var ?hv ?_); (case hv => rfl))
  | (with_reducible refine s_seq ?_)
  | (with_reducible refine s_set ?_)
  | (with_reducible refine s_ret ?_)
  | (with_reducible refine s_if ?_)
  | (with_reducible refine s_next ?_)
  | (with_reducible refine x_seq ?_)
  | (with_reducible refine x_if ?_)
  | ((with_reducible refine' w_isi ?_ ?_); decide)
  | (with_reducible refine w_callB ?_)
  | (with_reducible refine w_op ?_)
  | (with_reducible refine w_cons ?_)
  | (with_reducible refine w_nil ?_)
  | (with_reducible refine w_int ?_)
  | (with_reducible refine w_str ?_)
  | (with_reducible refine w_bl ?_)
  | (with_reducible refine w_non ?_)
  | (with_reducible refine w_test ?_)
  | (with_reducible refine w_tB ?_)
  | (with_reducible refine w_and ?_)
  | (with_reducible refine w_or ?_)
  | (with_reducible refine w_not ?_)
  | (with_reducible refine w_andV ?_)
  | (with_reducible refine w_orV ?_)
  | (with_reducible refine w_notV ?_)
  | (with_reducible refine w_if ?_)
  | ((with_reducible refine' w_chain ?hh ?hv); (case hv => rfl))
  | (with_reducible refine w_lst ?_)
  | (with_reducible refine w_tup ?_)
  | (with_reducible refine w_dnew ?_)
  | (with_reducible refine o_addI ?_)
  | (with_reducible refine o_subI ?_)
  | (with_reducible refine o_ltI ?_)
  | (with_reducible refine o_leI ?_)
  | (with_reducible refine o_gtI ?_)
  | (with_reducible refine o_geI ?_)
  | (with_reducible refine o_ltS ?_)
  | (with_reducible refine o_leS ?_)
  | (with_reducible refine o_gtS ?_)
  | (with_reducible refine o_geS ?_)
  | (with_reducible refine o_eqS ?_)
  | (with_reducible refine o_neS ?_)
  | (with_reducible refine o_isN ?_)
  | (with_reducible refine o_notN ?_)
  | (with_reducible refine o_isB ?_)
  | (with_reducible refine c_lenL ?_)
  | (with_reducible refine c_lenT ?_)
  | (with_reducible refine c_int ?_)
  | (with_reducible refine c_intB ?_)
  | (with_reducible refine c_ord ?_)
  | (with_reducible refine c_tupL ?_)
  | (with_reducible refine c_listL ?_)
  | (with_reducible refine c_listT ?_)
  | ((with_reducible refine o_eq ?_ ?_ ?_); (walk_at "sh"); (walk_at "sh"))
  | ((with_reducible refine o_ne ?_ ?_ ?_); (walk_at "sh"); (walk_at "sh"))
  | ((with_reducible refine' o_ixL ?hv ?_); (case hv => rfl))
  | ((with_reducible refine' o_ixT ?hv ?_); (case hv => rfl))
  | ((with_reducible refine o_modI ?_ ?_); (walk_at "sz"))
  | ((with_reducible refine o_addL ?_ ?_); (walk_at "sz"))
  | ((with_reducible refine o_addS ?_ ?_); (walk_at "sz"))
  | ((with_reducible refine o_addT ?_ ?_); (walk_at "sz"))
  | ((with_reducible refine c_lenS ?_ ?_); (walk_at "sz"))
  | refine iteT ?_
  | refine iteF ?_
  | refine And.intro (show _ ≤ sizeLine by walk_at "sz") ?_
  | refine ⟨_, rfl, ?_⟩
  | (refine' o_ixT ?hv ?_; (case hv => rfl))
  | (refine' o_ixL ?hv ?_; (case hv => rfl))
  | refine w_call ?_
  | refine w_callR ?_)
local macro_rules | `(tactic| walk_at "ws") => `(tactic| repeat walk_at "w")

section
variable {P : Program} {w : World} {K : PySem.W.Frag} {mg : Str → Option Value} {base : Heap} {CF CX CT : Addr}
theorem txc {x x' : PyData} {a b a' b' : Nat} {k : Bool} (e : [x, PyData.int a, PyData.int b] = [x', .int a', .int b']) (h : k = true ↔ TxIn a' b' x') : k = true ↔ TxIn a b x := by
  simp only [List.cons.injEq, PyData.int.injEq, and_true] at e
  obtain ⟨e1, e2, e3⟩ := e
  have e2 : a = a' := by omega
  have e3 : b = b' := by omega
  rw [e1, e2, e3]
  exact h
theorem az_sgn (c : Nat) : (!decide ((⟨#[c]⟩ : Str).cps.toList < ("a" : Str).cps.toList)) = decide (97 ≤ c) := by
  rw [show (⟨#[c]⟩ : Str).cps.toList = [c] from rfl, show ("a" : Str).cps.toList = [97] from rfl, sgl_lt, ← decide_not]
  congr 1
  simp
theorem az_sgn2 (c : Nat) : (!decide (("z" : Str).cps.toList < (⟨#[c]⟩ : Str).cps.toList)) = decide (c ≤ 122) := by
  rw [show (⟨#[c]⟩ : Str).cps.toList = [c] from rfl, show ("z" : Str).cps.toList = [122] from rfl, sgl_lt, ← decide_not]
  congr 1
  simp
theorem up_last {α : Type} {f : α → Nat} {l : List α} {a b : α} (h : ((l ++ [a]).map f).Pairwise (· < ·)) (hb : f a < f b) : ((l ++ [a] ++ [b]).map f).Pairwise (· < ·) := by
  rw [List.map_append]
  refine List.pairwise_append.mpr ⟨h, by simp, fun x hx y hy => ?_⟩
  have : y = f b := by simpa using hy
  subst this
  rw [List.map_append] at h
  obtain ⟨_, _, h3⟩ := List.pairwise_append.mp h
  rw [List.map_append] at hx
  rcases List.mem_append.mp hx with q | q
  · exact Nat.lt_trans (h3 x q (f a) (by simp)) hb
  · have : x = f a := by simpa using q
    omega
theorem mem_take_get {α : Type} {l : List α} {i : Nat} {x : α} (h : l[i]? = some x) : l.take (i + 1) = l.take i ++ [x] := by
  rw [List.take_succ, h]
  rfl
abbrev s_law_is_form : Stmt := top 49
theorem sc_law_is_form : FnScope ["value", "names", "signs", "role", "one", "sign"] ["value"] (defScope s_law_is_form) := ⟨rfl, rfl, rfl, by decide +kernel, rfl, by decide +kernel, by decide +kernel⟩
def sp_law_is_form  : Sp := spD 1 (fun ds => ∃ x, ds = [x] ∧ Nz false x) (fun ds d => ∃ x b, ds = [x] ∧ d = .bool b ∧ (b = true ↔ IsForm x))
theorem d_law_is_form (T : Bl mg) (F : FunAt K mg "_law_is_form" s_law_is_form)  (d_law_is_text : Df P w K mg base CX0 1 "_law_is_text" ["value", "least", "most"] [] sp_law_is_text) : Df P w K mg base CX0 2 "_law_is_form" ["value"] [] sp_law_is_form := by
  refine df_of F sc_law_is_form (spD_len rfl) (fun _ _ _ _ _ _ _ us hl => match us, hl with | [_], _ => rfl) fun f cdv A outer s H E hr => ?_
  refine ⟨_, (pss_cons (ps_if (PW.pt (pw_or (pt_not (pt_val (pe_callB call_isi (by rfl) T.isinstance_ (by rfl) (pa_cons (pv 0) (pa_cons (pe_bltn (v := .ty "tuple") (by rfl) T.tuple_ (by rfl) rfl) pa_nil))))) (pw_or (pt_cmpR (op_neX hr.units) (pe_callB call_lenX (by rfl) T.len_ (by rfl) (pa_cons (pv 0) pa_nil)) pe_int (nomark _)) (pw_or (pt_not (pt_val (pe_callB call_isi (by rfl) T.isinstance_ (by rfl) (pa_cons (pe_ix ix_seq (pv 0) pe_int (fun _ _ => rfl)) (pa_cons (pe_bltn (v := .ty "str") (by rfl) T.str_ (by rfl) rfl) pa_nil))))) (pw_or1 (pt_cmpR (op_neX hr.units) (pe_ix ix_seq (pv 0) pe_int (fun _ _ => rfl)) pe_str (nomark _))))))) (pss_one (ps_ret pe_bl)) pss_nil) (pss_cons (ps_if (PW.pt (pw_or (pt_not (pt_val (pe_callB call_isi (by rfl) T.isinstance_ (by rfl) (pa_cons (pe_ix ix_seq (pv 0) pe_int (fun _ _ => rfl)) (pa_cons (pe_bltn (v := .ty "list") (by rfl) T.list_ (by rfl) rfl) pa_nil))))) (pw_or (pt_not (pt_val (pe_callB call_isi (by rfl) T.isinstance_ (by rfl) (pa_cons (pe_ix ix_seq (pv 0) pe_int (fun _ _ => rfl)) (pa_cons (pe_bltn (v := .ty "list") (by rfl) T.list_ (by rfl) rfl) pa_nil))))) (pw_or (pt_not (pt_chain op_leX op_leX pe_int (pe_callB call_lenX (by rfl) T.len_ (by rfl) (pa_cons (pe_ix ix_seq (pv 0) pe_int (fun _ _ => rfl)) pa_nil)) pe_int)) (pw_or1 (pt_cmpR op_gtX (pe_callB call_lenX (by rfl) T.len_ (by rfl) (pa_cons (pe_ix ix_seq (pv 0) pe_int (fun _ _ => rfl)) pa_nil)) pe_int (nomark _))))))) (pss_one (ps_ret pe_bl)) pss_nil) (pss_cons (ps_par (i := 1) (j := 2) rfl sc_law_is_form.nd rfl rfl (by decide) rfl rfl (pa_cons (pe_lst pa_nil) (pa_cons (pe_lst pa_nil) pa_nil)) (by rfl)) (pss_cons (ps_for PassesOwn.never rfl (pi_any (pe_ix ix_seq (pv 0) pe_int (fun _ _ => rfl))) (pg_name (i := 3) sc_law_is_form.nd rfl (Or.inl rfl)) (pss_cons (ps_if (PW.pt (pw_or (pt_not (pt_val (pe_callB call_isi (by rfl) T.isinstance_ (by rfl) (pa_cons (pv 3) (pa_cons (pe_bltn (v := .ty "tuple") (by rfl) T.tuple_ (by rfl) rfl) pa_nil))))) (pw_or (pt_cmpR (op_neX hr.units) (pe_callB call_lenX (by rfl) T.len_ (by rfl) (pa_cons (pv 3) pa_nil)) pe_int (nomark _)) (pw_or (pt_not (pt_val (pe_def (E := E0) d_law_is_text hr (by decide) pass0 (pa_cons (pe_ix ix_seq (pv 3) pe_int (fun _ _ => rfl)) (pa_cons pe_int (pa_cons pe_int pa_nil)))))) (pw_or1 (pt_not (pt_val (pe_def (E := E0) d_law_is_text hr (by decide) pass0 (pa_cons (pe_ix ix_seq (pv 3) pe_int (fun _ _ => rfl)) (pa_cons pe_int (pa_cons pe_int pa_nil))))))))))) (pss_one (ps_ret pe_bl)) pss_nil) (pss_cons (ps_if (PW.pt (pw_or (pt_not (pt_val (pe_def (E := E0) d_law_is_text hr (by decide) pass0 (pa_cons (pe_ix ix_seq (pv 3) pe_int (fun _ _ => rfl)) (pa_cons pe_int (pa_cons pe_int pa_nil)))))) (pw_or (pt_cmpR (op_neNil hr.units) (pe_lc (own := [("sign", 5)]) (g := (gName 5)) (tt := (tNot (tTest (tChain rLeX rLeX (tC (.str "a")) (tVar 5) (tC (.str "z")))))) (te := (tVar 5)) rfl sc_law_is_form.nd (pi_any (pe_ix ix_seq (pv 3) pe_int (fun _ _ => rfl))) (blkOk_by (N := ["value", "names", "signs", "role", "one", "sign"]) (sc := defScope s_law_is_form) (by decide +kernel)) (fun _ _ _ _ _ => (pg_name (i := 5) sc_law_is_form.nd rfl (Or.inl rfl))) (fun _ _ _ _ _ => (pts_one (pt_not (pt_chain op_leX op_leX pe_str (pv 5) pe_str)))) (fun _ _ _ _ _ => (pv 5))) (pe_lst pa_nil) (nomark _)) (pw_or1 (pt_cmpR (op_inA (un65 hr)) (pe_ix ix_seq (pv 3) pe_int (fun _ _ => rfl)) (pv 1) (by rfl)))))) (pss_one (ps_ret pe_bl)) pss_nil) (pss_one (ps_expr (pe_bm PySem.F.plainAttrs_list PySem.F.slot_list_append PySem.F.type_list_append mt_append (pv 1) (pa_cons (pe_ix ix_seq (pv 3) pe_int (fun _ _ => rfl)) pa_nil))))))) (pss_cons (ps_for PassesOwn.never rfl (pi_any (pe_ix ix_seq (pv 0) pe_int (fun _ _ => rfl))) (pg_name (i := 4) sc_law_is_form.nd rfl (Or.inl rfl)) (pss_cons (ps_if (PW.pt (pw_or (pt_not (pt_val (pe_callB call_isi (by rfl) T.isinstance_ (by rfl) (pa_cons (pv 4) (pa_cons (pe_bltn (v := .ty "tuple") (by rfl) T.tuple_ (by rfl) rfl) pa_nil))))) (pw_or (pt_cmpR (op_neX hr.units) (pe_callB call_lenX (by rfl) T.len_ (by rfl) (pa_cons (pv 4) pa_nil)) pe_int (nomark _)) (pw_or (pt_not (pt_val (pe_def (E := E0) d_law_is_text hr (by decide) pass0 (pa_cons (pe_ix ix_seq (pv 4) pe_int (fun _ _ => rfl)) (pa_cons pe_int (pa_cons pe_int pa_nil)))))) (pw_or1 (pt_not (pt_val (pe_def (E := E0) d_law_is_text hr (by decide) pass0 (pa_cons (pe_ix ix_seq (pv 4) pe_int (fun _ _ => rfl)) (pa_cons pe_int (pa_cons pe_int pa_nil))))))))))) (pss_one (ps_ret pe_bl)) pss_nil) (pss_cons (ps_if (PW.pt (pw_and (pt_cmpR (op_neNil hr.units) (pv 2) (pe_lst pa_nil) (nomark _)) (pw_and1 (pt_cmpR op_geX (pe_ix ix_seq (pv 2) (pe_un un_neg pe_int) (fun _ _ => rfl)) (pe_ix ix_seq (pv 4) pe_int (fun _ _ => rfl)) (nomark _))))) (pss_one (ps_ret pe_bl)) pss_nil) (pss_one (ps_expr (pe_bm PySem.F.plainAttrs_list PySem.F.slot_list_append PySem.F.type_list_append mt_append (pv 2) (pa_cons (pe_ix ix_seq (pv 4) pe_int (fun _ _ => rfl)) pa_nil))))))) (pss_one (ps_ret pe_bl))))))), fun vs Q h => ?_⟩
  refine body_D (n := 1) (k := 5) rfl (fun ds hl ⟨x, e, hx⟩ => ?_) vs H Q E h
  subst e
  have no : ¬ IsForm x → ∃ x' b', [x] = [x'] ∧ PyData.bool false = .bool b' ∧ (b' = true ↔ IsForm x') := fun h => ⟨x, _, rfl, rfl, ff h⟩
  walk_at "ws"
  refine iteN (fun h0 => ?_) fun h0 => ?_
  · exact s_ret (w_bl (no fun ⟨rs, es, e, _⟩ => by rw [e] at h0; cases h0))
  obtain ⟨xs, rfl⟩ := isT_tup h0
  have hl := line5 hx.lenT
  walk_at "ws"
  rw [eqv_int]
  refine iteN (fun h1 => ?_) fun h1 => ?_
  · rw [decide_eq_false_iff_not] at h1
    exact s_ret (w_bl (no fun ⟨rs, es, e, _⟩ => by
      injection e with e
      rw [e] at h1
      exact h1 rfl))
  rw [decide_eq_true_eq] at h1
  obtain ⟨k, a, b, rfl⟩ := len3 (xs := xs) (by omega)
  have hk := hx.itemT (x := k) (by simp)
  have ha := hx.itemT (x := a) (by simp)
  have hb := hx.itemT (x := b) (by simp)
  have inj3 : ∀ {rs es}, PyData.tuple [k, a, b] = fD rs es → k = .str "form" ∧ a = .list (rs.map rD) ∧ b = .list (es.map eD) := fun e => by
    injection e with e
    simp only [List.cons.injEq, and_true] at e
    exact ⟨e.1, e.2.1, e.2.2⟩
  walk_at "ws"
  refine iteN (fun h2 => ?_) fun h2 => ?_
  · exact s_ret (w_bl (no fun ⟨rs, es, e, _⟩ => by
      rw [(inj3 e).1] at h2
      cases h2))
  obtain ⟨k, rfl⟩ := is_str h2
  have hks := hk.shaped
  walk_at "ws"
  rw [eqv_str]
  refine iteN (fun h3 => ?_) fun h3 => ?_
  · rw [decide_eq_false_iff_not] at h3
    exact s_ret (w_bl (no fun ⟨rs, es, e, _⟩ => by
      have := (inj3 e).1
      injection this with this
      exact h3 this))
  rw [decide_eq_true_eq] at h3
  subst h3
  walk_at "ws"
  refine iteN (fun h4 => ?_) fun h4 => ?_
  · exact s_ret (w_bl (no fun ⟨rs, es, e, _⟩ => by
      rw [(inj3 e).2.1] at h4
      cases h4))
  obtain ⟨ra, rfl⟩ := isT_lst h4
  walk_at "ws"
  refine iteN (fun h5 => ?_) fun h5 => ?_
  · exact s_ret (w_bl (no fun ⟨rs, es, e, _⟩ => by
      rw [(inj3 e).2.2] at h5
      cases h5))
  obtain ⟨ea, rfl⟩ := isT_lst h5
  have hal := line5 ha.lenL
  have hbl := line5 hb.lenL
  have injl : ∀ {rs es}, PyData.tuple [.str "form", .list ra, .list ea] = fD rs es → ra = rs.map rD ∧ ea = es.map eD := fun e => by
    obtain ⟨_, e1, e2⟩ := inj3 e
    injection e1 with e1
    injection e2 with e2
    exact ⟨e1, e2⟩
  walk_at "ws"
  refine iteB (fun h6 => ?_) fun h6 => ?_
  rotate_left
  · rw [decide_eq_false_iff_not] at h6
    walk_at "ws"
    exact no fun ⟨rs, es, e, o⟩ => h6 (by
      have := o.r1
      rw [(injl e).1, List.length_map]
      omega)
  rw [decide_eq_true_eq] at h6
  walk_at "ws"
  refine iteN (fun h7 => ?_) fun h7 => ?_
  · rw [decide_eq_false_iff_not] at h7
    exact s_ret (w_bl (no fun ⟨rs, es, e, o⟩ => h7 (by
      have := o.r6
      rw [(injl e).1, List.length_map]
      omega)))
  rw [decide_eq_true_eq] at h7
  walk_at "ws"
  refine iteB (fun h8 => ?_) fun h8 => ?_
  · rw [decide_eq_true_eq] at h8
    exact s_ret (w_bl (no fun ⟨rs, es, e, o⟩ => by
      have := o.e12
      rw [(injl e).2, List.length_map] at h8
      omega))
  rw [decide_eq_false_iff_not] at h8
  have badR : ∀ d ∈ ra, ¬ IsRole d → ¬ IsForm (.tuple [.str "form", .list ra, .list ea]) := fun d hd h ⟨rs, es, e, o⟩ => by
    rw [(injl e).1] at hd
    obtain ⟨r, hr, rfl⟩ := List.mem_map.mp hd
    exact h ⟨r, rfl, o.hr r hr⟩
  have badE : ∀ d ∈ ea, ¬ IsEsc d → ¬ IsForm (.tuple [.str "form", .list ra, .list ea]) := fun d hd h ⟨rs, es, e, o⟩ => by
    rw [(injl e).2] at hd
    obtain ⟨r, hr, rfl⟩ := List.mem_map.mp hd
    exact h ⟨r, rfl, o.he r hr⟩
  refine s_next (s_seq (s_parOO (wO_lst (w_nil ⟨by decide, wO_lst (w_nil ⟨by decide, ?_⟩)⟩))))
  refine s_seq (s_for (i_anyL (w_op (w_var rfl (w_int (o_ixT (d := .list ra) rfl ?_))))))
  refine ⟨_, rfl, fun i ρ => ∃ (rs : List (Str × Str × Str)) (e3 : Ent), ρ = [.dat (.tuple [.str "form", .list ra, .list ea]), .own ((rs.map (·.1)).map PyData.str), .own [], e3, .no, .no] ∧ ra.take i = rs.map rD ∧ (∀ r ∈ rs, RoleOk r) ∧ (rs.map (·.1)).Nodup, ⟨[], .no, rfl, by simp, by simp, by simp⟩, ?_, ?_⟩
  · rintro ρ ⟨rs, e3, rfl, er, hrs, hnd⟩
    rw [List.take_length] at er
    subst er
    rw [List.length_map] at h6 h7
    refine s_seq (s_for (i_anyL (w_op (w_var rfl (w_int (o_ixT (d := .list ea) rfl ?_))))))
    refine ⟨_, rfl, fun i ρ => ∃ (es : List (Nat × Str)) (e3 e4 : Ent), ρ = [.dat (.tuple [.str "form", .list (rs.map rD), .list ea]), .own ((rs.map (·.1)).map PyData.str), .own (es.map fun e => .str (sg e.1)), e3, e4, .no] ∧ ea.take i = es.map eD ∧ (∀ e ∈ es, EscOk e) ∧ (es.map (·.1)).Pairwise (· < ·), ⟨[], e3, .no, rfl, by simp, by simp, by simp⟩, ?_, ?_⟩
    · rintro ρ ⟨es, e3, e4, rfl, ee, hes, hup⟩
      rw [List.take_length] at ee
      subst ee
      rw [List.length_map] at h8
      exact s_ret (w_bl ⟨_, _, rfl, rfl, ⟨fun _ => ⟨rs, es, rfl, by omega, by omega, by omega, hrs, hes, hnd, hup⟩, fun _ => rfl⟩⟩)
    · rintro i d ρ hd ⟨es, e3, e4, rfl, ee, hes, hup⟩
      have hdm := List.mem_of_getElem? hd
      have hdz := hb.itemL hdm
      have il : i < ea.length := (List.getElem?_eq_some_iff.mp hd).1
      have esl : es.length = i := by
        have := congrArg List.length ee
        rw [List.length_take, List.length_map] at this
        omega
      refine g_name ?_
      walk_at "ws"
      refine iteN (fun q0 => ?_) fun q0 => ?_
      · exact s_ret (w_bl (no (badE d hdm fun ⟨e, h, _⟩ => by rw [h] at q0; cases q0)))
      obtain ⟨xs, rfl⟩ := isT_tup q0
      have hlx := line5 hdz.lenT
      walk_at "ws"
      rw [eqv_int]
      refine iteN (fun q1 => ?_) fun q1 => ?_
      · rw [decide_eq_false_iff_not] at q1
        exact s_ret (w_bl (no (badE _ hdm fun ⟨e, h, _⟩ => by
          injection h with h
          rw [h] at q1
          exact q1 rfl)))
      rw [decide_eq_true_eq] at q1
      obtain ⟨a, b, rfl⟩ := len2 (xs := xs) (by omega)
      have inj2 : ∀ {e}, PyData.tuple [a, b] = eD e → a = .str (sg e.1) ∧ b = .str e.2 := fun h => by
        injection h with h
        simp only [List.cons.injEq, and_true] at h
        exact h
      have haz := hdz.itemT (x := a) (by simp)
      have hbz := hdz.itemT (x := b) (by simp)
      walk_at "ws"
      refine ⟨rfl, ⟨_, 1, 1, rfl, haz.t⟩, ?_⟩
      rintro d ⟨x', a', b', k1, e, rfl, hk⟩
      have hk1 : k1 = true ↔ TxIn 1 1 a := txc (a := 1) (b := 1) e hk
      clear hk e
      walk_at "ws"
      refine iteN (fun q2 => ?_) fun q2 => ?_
      · subst q2
        refine s_ret (w_bl (no (badE _ hdm fun ⟨e, h, he⟩ => Bool.false_ne_true (hk1.mpr ⟨sg e.1, (inj2 h).1, fun c hc => ?_, Nat.le_refl 1, Nat.le_refl 1⟩))))
        have : c = e.1 := by simpa [sg] using hc
        rw [this]
        exact he.1
      obtain ⟨z, rfl, hz, z1, z2⟩ := hk1.mp q2
      obtain ⟨c, rfl⟩ := one_sign (by omega : z.length = 1)
      have hc : okC c = true := hz c (by simp)
      walk_at "ws"
      refine ⟨rfl, ⟨_, 1, 4, rfl, hbz.t⟩, ?_⟩
      rintro d ⟨x', a', b', k2, e, rfl, hk⟩
      have hk2 : k2 = true ↔ TxIn 1 4 b := txc (a := 1) (b := 4) e hk
      clear hk e
      walk_at "ws"
      refine iteN (fun q3 => ?_) fun q3 => ?_
      · subst q3
        exact s_ret (w_bl (no (badE _ hdm fun ⟨e, h, he⟩ => Bool.false_ne_true (hk2.mpr ⟨e.2, (inj2 h).2, he.2.1, he.2.2.1, he.2.2.2⟩))))
      obtain ⟨t, rfl, ht, t1, t2⟩ := hk2.mp q3
      have okE : EscOk (c, t) := ⟨hc, ht, t1, t2⟩
      have eeD : ∀ {es' : List (Nat × Str)}, ea = es'.map eD → es'.take (i + 1) = es ++ [(c, t)] := fun {es'} e => by
        have h := mem_take_get hd
        rw [ee, e, ← List.map_take] at h
        exact map_inj eD_inj (h.trans (by rw [List.map_append]; rfl))
      refine s_next (s_seq (s_if (w_thawT (i := 2) rfl (w_and (w_test (w_op (w_var rfl (w_lst (w_nil ⟨by decide, o_neNilD ⟨_, rfl, ?_⟩⟩)))))))))
      rcases List.eq_nil_or_concat es with q | ⟨es0, l, q⟩
      · subst q
        refine iteF (iteF (s_next (s_app (i := 2) rfl (w_op (w_var rfl (w_int (o_ixT (d := .str ⟨#[c]⟩) rfl ⟨by decide, [(c, t)], _, _, rfl, ?_, ?_, ?_⟩)))))))
        · rw [mem_take_get hd, ee]
          rfl
        · intro e he
          rw [List.mem_singleton.mp he]
          exact okE
        · simp
      · rw [List.concat_eq_append] at q
        subst q
        rw [decide_eq_false (by simp)]
        rw [List.length_append, List.length_singleton] at esl
        refine iteT (w_test (w_op (w_op (w_var rfl (w_neg (w_int ⟨1, rfl, o_ixL (d := .str (sg l.1)) (by rw [List.map_append]; exact atI_last _ _) (w_op (w_var rfl (w_int (o_ixT (d := .str ⟨#[c]⟩) rfl (o_geS ⟨_, rfl, ?_⟩)))))⟩))))))
        rw [show (sg l.1).cps.toList = [l.1] from rfl, show (⟨#[c]⟩ : Str).cps.toList = [c] from rfl, sgl_lt]
        refine iteN (fun q4 => ?_) fun q4 => ?_
        · rw [decide_eq_false_iff_not] at q4
          refine s_ret (w_bl (no fun ⟨rs', es', e, o⟩ => q4 ?_))
          have h := eeD (injl e).2
          have u : ((es'.take (i + 1)).map (·.1)).Pairwise (· < ·) := o.up.sublist ((List.take_sublist _ _).map _)
          rw [h, List.map_append] at u
          exact (List.pairwise_append.mp u).2.2 l.1 (by simp) c (by simp)
        · rw [decide_eq_true_eq] at q4
          refine s_next (s_app (i := 2) rfl (w_op (w_var rfl (w_int (o_ixT (d := .str ⟨#[c]⟩) rfl ⟨?_, es0 ++ [l] ++ [(c, t)], e3, .dat (.tuple [.str ⟨#[c]⟩, .str t]), ?_, ?_, ?_, ?_⟩)))))
          · rw [List.length_map, List.length_append, sizeLine_eq]
            simp only [List.length_singleton]
            omega
          · rw [List.map_append (l₂ := [(c, t)])]
            rfl
          · rw [mem_take_get hd, ee, List.map_append (l₂ := [(c, t)])]
            rfl
          · intro e he
            rcases List.mem_append.mp he with q | q
            · exact hes e q
            · rw [List.mem_singleton.mp q]
              exact okE
          · exact up_last hup q4
  · rintro i d ρ hd ⟨rs, e3, rfl, er, hrs, hnd⟩
    have hdm := List.mem_of_getElem? hd
    have hdz := ha.itemL hdm
    have il : i < ra.length := (List.getElem?_eq_some_iff.mp hd).1
    have rsl : rs.length = i := by
      have := congrArg List.length er
      rw [List.length_take, List.length_map] at this
      omega
    refine g_name ?_
    walk_at "ws"
    refine iteN (fun q0 => ?_) fun q0 => ?_
    · exact s_ret (w_bl (no (badR d hdm fun ⟨e, h, _⟩ => by rw [h] at q0; cases q0)))
    obtain ⟨xs, rfl⟩ := isT_tup q0
    have hlx := line5 hdz.lenT
    walk_at "ws"
    rw [eqv_int]
    refine iteN (fun q1 => ?_) fun q1 => ?_
    · rw [decide_eq_false_iff_not] at q1
      exact s_ret (w_bl (no (badR _ hdm fun ⟨e, h, _⟩ => by
        injection h with h
        rw [h] at q1
        exact q1 rfl)))
    rw [decide_eq_true_eq] at q1
    obtain ⟨n, a, b, rfl⟩ := len3 (xs := xs) (by omega)
    have inj3' : ∀ {e}, PyData.tuple [n, a, b] = rD e → n = .str e.1 ∧ a = .str e.2.1 ∧ b = .str e.2.2 := fun h => by
      injection h with h
      simp only [List.cons.injEq, and_true] at h
      exact h
    have hnz := hdz.itemT (x := n) (by simp)
    have haz := hdz.itemT (x := a) (by simp)
    have hbz := hdz.itemT (x := b) (by simp)
    walk_at "ws"
    refine ⟨rfl, ⟨_, 1, 8, rfl, hnz.t⟩, ?_⟩
    rintro d ⟨x', a', b', k1, e, rfl, hk⟩
    have hk1 : k1 = true ↔ TxIn 1 8 n := txc (a := 1) (b := 8) e hk
    clear hk e
    have smok : ∀ {z : Str}, IsName z → AllC z := fun h c hc => by
      have := h.2.2 c hc
      simp only [smC, Bool.and_eq_true, decide_eq_true_eq] at this
      simp only [okC, Bool.or_eq_true, Bool.and_eq_true, decide_eq_true_eq]
      omega
    walk_at "ws"
    refine iteN (fun q2 => ?_) fun q2 => ?_
    · subst q2
      exact s_ret (w_bl (no (badR _ hdm fun ⟨e, h, he⟩ => Bool.false_ne_true (hk1.mpr ⟨e.1, (inj3' h).1, smok he.1, he.1.1, he.1.2.1⟩))))
    obtain ⟨z, rfl, hz, z1, z2⟩ := hk1.mp q2
    walk_at "ws"
    refine ⟨rfl, ⟨_, 1, 12, rfl, haz.t⟩, ?_⟩
    rintro d ⟨x', a', b', k2, e, rfl, hk⟩
    have hk2 : k2 = true ↔ TxIn 1 12 a := txc (a := 1) (b := 12) e hk
    clear hk e
    walk_at "ws"
    refine iteN (fun q3 => ?_) fun q3 => ?_
    · subst q3
      exact s_ret (w_bl (no (badR _ hdm fun ⟨e, h, he⟩ => Bool.false_ne_true (hk2.mpr ⟨e.2.1, (inj3' h).2.1, he.2.1.1, he.2.1.2.1, he.2.1.2.2⟩))))
    obtain ⟨t, rfl, ht, t1, t2⟩ := hk2.mp q3
    walk_at "ws"
    refine ⟨rfl, ⟨_, 1, 12, rfl, hbz.t⟩, ?_⟩
    rintro d ⟨x', a', b', k3, e, rfl, hk⟩
    have hk3 : k3 = true ↔ TxIn 1 12 b := txc (a := 1) (b := 12) e hk
    clear hk e
    walk_at "ws"
    refine iteN (fun q4 => ?_) fun q4 => ?_
    · subst q4
      exact s_ret (w_bl (no (badR _ hdm fun ⟨e, h, he⟩ => Bool.false_ne_true (hk3.mpr ⟨e.2.2, (inj3' h).2.2, he.2.2.1, he.2.2.2.1, he.2.2.2.2⟩))))
    obtain ⟨u, rfl, hu, u1, u2⟩ := hk3.mp q4
    refine w_or (w_test (w_op (w_filD (sgs z) (anyS fun c => !smC c) rfl (line5 (by rw [len_sgs]; exact hnz.lenS)) (i_anyS (w_op (w_var rfl (w_int (o_ixT (d := .str z) rfl ⟨_, rfl, rfl, rfl⟩))))) (fun y hy => ?_) ?_)))
    · obtain ⟨c, hc, rfl⟩ := List.mem_map.mp hy
      refine w_not (w_test (w_chain (w_str (w_var rfl (o_leS ⟨_, rfl, ?_⟩)))))
      rw [az_sgn, anyS_sg]
      refine iteB (fun h => ?_) fun h => ?_
      · refine w_str (o_leS ⟨_, rfl, ?_, rfl⟩)
        rw [az_sgn2, smC, h]
        rfl
      · refine ⟨_, rfl, ?_, rfl⟩
        rw [smC, h]
        rfl
    refine w_lst (w_nil ⟨by decide, o_neNilD ⟨_, rfl, ?_⟩⟩)
    refine iteN (fun q5 => ?_) fun q5 => ?_
    · rw [decide_eq_false_iff_not, fil_nil] at q5
      refine s_ret (w_bl (no (badR _ hdm fun ⟨e, h, he⟩ => q5 fun c hc => ?_)))
      have := (inj3' h).1
      injection this with this
      rw [this] at hc
      rw [he.1.2.2 c hc]
      rfl
    rw [decide_eq_true_eq, fil_nil] at q5
    have hN : IsName z := ⟨z1, z2, fun c hc => by simpa using q5 c hc⟩
    have okR : RoleOk (z, t, u) := ⟨hN, ⟨ht, t1, t2⟩, hu, u1, u2⟩
    refine w_thawT (i := 1) rfl (w_test (w_op (w_op (w_var rfl (w_int (o_ixT (d := .str z) rfl (w_var rfl (o_inA (name_shaped hN) (names_shaped (by rw [List.length_map]; omega) fun x hx => ?_) ⟨_, rfl, ?_⟩))))))))
    · obtain ⟨r, hr', rfl⟩ := List.mem_map.mp hx
      exact (hrs r hr').1
    rw [any_str]
    refine iteB (fun q6 => ?_) fun q6 => ?_
    · rw [decide_eq_true_eq] at q6
      refine s_ret (w_bl (no fun ⟨rs', es', e, o⟩ => ?_))
      have h := mem_take_get hd
      rw [er, (injl e).1, ← List.map_take] at h
      have h := map_inj rD_inj (h.trans (show _ = (rs ++ [(z, t, u)]).map rD by rw [List.map_append]; rfl))
      have nd : ((rs'.take (i + 1)).map (·.1)).Nodup := o.nd.sublist ((List.take_sublist _ _).map _)
      rw [h, List.map_append, List.nodup_append] at nd
      exact nd.2.2 z q6 z (by simp) rfl
    · rw [decide_eq_false_iff_not] at q6
      refine s_next (s_app (i := 1) rfl (w_op (w_var rfl (w_int (o_ixT (d := .str z) rfl ⟨?_, rs ++ [(z, t, u)], .dat (.tuple [.str z, .str t, .str u]), ?_, ?_, ?_, ?_⟩)))))
      · rw [List.length_map, List.length_map, sizeLine_eq]
        omega
      · rw [List.map_append, List.map_append]
        rfl
      · rw [mem_take_get hd, er, List.map_append]
        rfl
      · intro r hr
        rcases List.mem_append.mp hr with q | q
        · exact hrs r q
        · rw [List.mem_singleton.mp q]
          exact okR
      · rw [List.map_append, List.nodup_append]
        refine ⟨hnd, by simp, fun x hx y hy e => q6 ?_⟩
        have : y = z := by simpa using hy
        rw [← this, ← e]
        exact hx
end
end K81


namespace K81
open PySem PySem.Spec PyProof.Rows L2 DL ErX
open Evl (Ex)
local macro_rules | `(tactic| walk_at "sz") => `(tactic| first | assumption | (rw [sizeLine_eq]; simp only [List.length_cons, List.length_nil, List.length_append, List.length_map, List.length_replicate, List.length_range]; omega) | (rw [sizeLine_eq]; simp; done) | (rw [sizeLine_eq]; simp; omega) | omega)
local macro_rules | `(tactic| walk_at "sh") => `(tactic| first | assumption | exact shaped_int _ | rfl | (exact ty_shaped (by assumption)) | (decide +kernel))
local macro_rules | `(tactic| walk_at "w") => `(tactic| first
  | ((with_reducible refine' w_var ?hv ?_); (case hv => rfl))
  | (with_reducible refine s_seq ?_)
  | (with_reducible refine s_set ?_)
  | (with_reducible refine s_ret ?_)
  | (with_reducible refine s_if ?_)
  | (with_reducible refine s_next ?_)
  | (with_reducible refine x_seq ?_)
  | (with_reducible refine x_if ?_)
  | ((with_reducible refine' w_isi ?_ ?_); decide)
  | (with_reducible refine w_callB ?_)
  | (with_reducible refine w_op ?_)
  | (with_reducible refine w_cons ?_)
  | (with_reducible refine w_nil ?_)
  | (with_reducible refine w_int ?_)
  | (with_reducible refine w_str ?_)
  | (with_reducible refine w_bl ?_)
  | (with_reducible refine w_non ?_)
  | (with_reducible refine w_test ?_)
  | (with_reducible refine w_tB ?_)
  | (with_reducible refine w_and ?_)
  | (with_reducible refine w_or ?_)
  | (with_reducible refine w_not ?_)
  | (with_reducible refine w_andV ?_)
  | (with_reducible refine w_orV ?_)
  | (with_reducible refine w_notV ?_)
  | (with_reducible refine w_if ?_)
  | ((with_reducible refine' w_chain ?hh ?hv); (case hv => rfl))
  | (with_reducible refine w_lst ?_)
  | (with_reducible refine w_tup ?_)
  | (with_reducible refine w_dnew ?_)
  | (with_reducible refine o_addI ?_)
  | (with_reducible refine o_subI ?_)
  | (with_reducible refine o_ltI ?_)
  | (with_reducible refine o_leI ?_)
  | (with_reducible refine o_gtI ?_)
  | (with_reducible refine o_geI ?_)
  | (with_reducible refine o_ltS ?_)
  | (with_reducible refine o_leS ?_)
  | (with_reducible refine o_gtS ?_)
  | (with_reducible refine o_geS ?_)
  | (with_reducible refine o_eqS ?_)
  | (with_reducible refine o_neS ?_)
  | (with_reducible refine o_isN ?_)
  | (with_reducible refine o_notN ?_)
  | (with_reducible refine o_isB ?_)
  | (with_reducible refine c_lenL ?_)
  | (with_reducible refine c_lenT ?_)
  | (with_reducible refine c_int ?_)
  | (with_reducible refine c_intB ?_)
  | (with_reducible refine c_ord ?_)
  | (with_reducible refine c_tupL ?_)
  | (with_reducible refine c_listL ?_)
  | (with_reducible refine c_listT ?_)
  | ((with_reducible refine o_eq ?_ ?_ ?_); (walk_at "sh"); (walk_at "sh"))
  | ((with_reducible refine o_ne ?_ ?_ ?_); (walk_at "sh"); (walk_at "sh"))
  | ((with_reducible refine' o_ixL ?hv ?_); (case hv => rfl))
  | ((with_reducible refine' o_ixT ?hv ?_); (case hv => rfl))
  | ((with_reducible refine o_modI ?_ ?_); (walk_at "sz"))
  | ((with_reducible refine o_addL ?_ ?_); (walk_at "sz"))
  | ((with_reducible refine o_addS ?_ ?_); (walk_at "sz"))
  | ((with_reducible refine o_addT ?_ ?_); (walk_at "sz"))
  | ((with_reducible refine c_lenS ?_ ?_); (walk_at "sz"))
  | refine iteT ?_
  | refine iteF ?_
  | refine And.intro (show _ ≤ sizeLine by walk_at "sz") ?_
  | refine ⟨_, rfl, ?_⟩
  | (refine' o_ixT ?hv ?_; (case hv => rfl))
  | (refine' o_ixL ?hv ?_; (case hv => rfl))
  | refine w_call ?_
  | refine w_callR ?_)
local macro_rules | `(tactic| walk_at "ws") => `(tactic| repeat walk_at "w")

section
variable {P : Program} {w : World} {K : PySem.W.Frag} {mg : Str → Option Value} {base : Heap} {CF CX CT : Addr}
abbrev s_law_is_talk : Stmt := top 50
theorem sc_law_is_talk : FnScope ["form", "value", "item", "role"] ["form", "value"] (defScope s_law_is_talk) := ⟨rfl, rfl, rfl, by decide +kernel, rfl, by decide +kernel, by decide +kernel⟩
def sp_law_is_talk  : Sp := spD 2 (fun ds => ∃ (rs : List (Str × Str × Str)) (es : List (Nat × Str)) (x : PyData), ds = [fD rs es, x] ∧ FormOk rs es ∧ Nz true x) (fun ds d => ∃ (rs : List (Str × Str × Str)) (es : List (Nat × Str)) (x : PyData) (b : Bool), ds = [fD rs es, x] ∧ d = .bool b ∧ (b = true ↔ IsTalk rs x))
theorem d_law_is_talk (T : Bl mg) (F : FunAt K mg "_law_is_talk" s_law_is_talk)  (d_law_is_text : Df P w K mg base CX0 1 "_law_is_text" ["value", "least", "most"] [] sp_law_is_text) : Df P w K mg base CX0 2 "_law_is_talk" ["form", "value"] [] sp_law_is_talk := by
  refine df_of F sc_law_is_talk (spD_len rfl) (fun _ _ _ _ _ _ _ us hl => match us, hl with | [_, _], _ => rfl) fun f cdv A outer s H E hr => ?_
  refine ⟨_, (pss_cons (ps_if (pt_not (pt_val (pe_callB call_isi (by rfl) T.isinstance_ (by rfl) (pa_cons (pv 1) (pa_cons (pe_bltn (v := .ty "list") (by rfl) T.list_ (by rfl) rfl) pa_nil))))) (pss_one (ps_ret pe_bl)) pss_nil) (pss_cons (ps_for PassesOwn.never rfl (pi_any (pv 1)) (pg_name (i := 2) sc_law_is_talk.nd rfl (Or.inl rfl)) (pss_cons (ps_if (PW.pt (pw_or (pt_not (pt_val (pe_callB call_isi (by rfl) T.isinstance_ (by rfl) (pa_cons (pv 2) (pa_cons (pe_bltn (v := .ty "tuple") (by rfl) T.tuple_ (by rfl) rfl) pa_nil))))) (pw_or (pt_cmpR (op_neX hr.units) (pe_callB call_lenX (by rfl) T.len_ (by rfl) (pa_cons (pv 2) pa_nil)) pe_int (nomark _)) (pw_or (pt_not (pt_val (pe_callB call_isi (by rfl) T.isinstance_ (by rfl) (pa_cons (pe_ix ix_seq (pv 2) pe_int (fun _ _ => rfl)) (pa_cons (pe_bltn (v := .ty "str") (by rfl) T.str_ (by rfl) rfl) pa_nil))))) (pw_or1 (pt_not (pt_val (pe_def (E := E0) d_law_is_text hr (by decide) pass0 (pa_cons (pe_ix ix_seq (pv 2) pe_int (fun _ _ => rfl)) (pa_cons pe_int (pa_cons (pe_op op_powW pe_int pe_int) pa_nil))))))))))) (pss_one (ps_ret pe_bl)) pss_nil) (pss_one (ps_if (pt_cmpR (op_notInA (un65 hr)) (pe_ix ix_seq (pv 2) pe_int (fun _ _ => rfl)) (pe_lc (own := [("role", 3)]) (g := (gName 3)) (tt := tYes) (te := (tOp (rIx K) (tVar 3) (tC (.int 0)))) rfl sc_law_is_talk.nd (pi_any (pe_ix ix_seq (pv 0) pe_int (fun _ _ => rfl))) (blkOk_by (N := ["form", "value", "item", "role"]) (sc := defScope s_law_is_talk) (by decide +kernel)) (fun _ _ _ _ _ => (pg_name (i := 3) sc_law_is_talk.nd rfl (Or.inl rfl))) (fun _ _ _ _ _ => pts_nil) (fun _ _ _ _ _ => (pe_ix ix_seq (pv 3) pe_int (fun _ _ => rfl)))) (by rfl)) (pss_one (ps_ret pe_bl)) pss_nil)))) (pss_one (ps_ret pe_bl)))), fun vs Q h => ?_⟩
  refine body_D (n := 2) (k := 2) rfl (fun ds hl ⟨rs, es, x, e, o, hx⟩ => ?_) vs H Q E h
  subst e
  have no : ¬ IsTalk rs x → ∃ (rs' : List (Str × Str × Str)) (es' : List (Nat × Str)) (x' : PyData) (b' : Bool), [fD rs es, x] = [fD rs' es', x'] ∧ PyData.bool false = .bool b' ∧ (b' = true ↔ IsTalk rs' x') := fun h => ⟨rs, es, x, _, rfl, rfl, ff h⟩
  walk_at "ws"
  refine iteN (fun h0 => ?_) fun h0 => ?_
  · exact s_ret (w_bl (no fun ⟨m, e, _⟩ => by rw [e] at h0; cases h0))
  obtain ⟨xs, rfl⟩ := isT_lst h0
  have badM : ∀ d ∈ xs, ¬ IsMsg rs d → ¬ IsTalk rs (.list xs) := fun d hd h ⟨ms, e, hm⟩ => by
    injection e with e
    rw [e] at hd
    obtain ⟨m, hm', rfl⟩ := List.mem_map.mp hd
    exact h ⟨m, rfl, hm m hm'⟩
  refine s_next (s_seq (s_for (i_anyL (w_var rfl ?_))))
  refine ⟨_, rfl, fun i ρ => ∃ (ms : List (Str × Str)) (e2 : Ent), ρ = [.dat (fD rs es), .dat (.list xs), e2, .no] ∧ xs.take i = ms.map mD ∧ ∀ m ∈ ms, MsgOk rs m, ⟨[], .no, rfl, by simp, by simp⟩, ?_, ?_⟩
  · rintro ρ ⟨ms, e2, rfl, e, hm⟩
    rw [List.take_length] at e
    subst e
    exact s_ret (w_bl ⟨rs, es, _, _, rfl, rfl, ⟨fun _ => ⟨ms, rfl, hm⟩, fun _ => rfl⟩⟩)
  · rintro i d ρ hd ⟨ms, e2, rfl, er, hm⟩
    have hdm := List.mem_of_getElem? hd
    have hdz := hx.itemL hdm
    refine g_name ?_
    walk_at "ws"
    refine iteN (fun q0 => ?_) fun q0 => ?_
    · exact s_ret (w_bl (no (badM d hdm fun ⟨e, h, _⟩ => by rw [h] at q0; cases q0)))
    obtain ⟨ys, rfl⟩ := isT_tup q0
    have hlx := line5 hdz.lenT
    walk_at "ws"
    rw [eqv_int]
    refine iteN (fun q1 => ?_) fun q1 => ?_
    · rw [decide_eq_false_iff_not] at q1
      exact s_ret (w_bl (no (badM _ hdm fun ⟨e, h, _⟩ => by
        injection h with h
        rw [h] at q1
        exact q1 rfl)))
    rw [decide_eq_true_eq] at q1
    obtain ⟨a, b, rfl⟩ := len2 (xs := ys) (by omega)
    have inj2 : ∀ {m}, PyData.tuple [a, b] = mD m → a = .str m.1 ∧ b = .str m.2 := fun e => by
      injection e with e
      simp only [List.cons.injEq, and_true] at e
      exact e
    have haz := hdz.itemT (x := a) (by simp)
    have hbz := hdz.itemT (x := b) (by simp)
    walk_at "ws"
    refine iteN (fun q2 => ?_) fun q2 => ?_
    · exact s_ret (w_bl (no (badM _ hdm fun ⟨e, h, _⟩ => by
        rw [(inj2 h).1] at q2
        cases q2)))
    obtain ⟨n, rfl⟩ := is_str q2
    walk_at "ws"
    refine o_powW ⟨by decide, by decide⟩ (w_nil ⟨rfl, ⟨_, 0, 1000000, rfl, hbz⟩, ?_⟩)
    rintro d ⟨x', a', b', k1, e, rfl, hk⟩
    have hk1 : k1 = true ↔ TxIn 0 1000000 b := txc (a := 0) (b := 1000000) e hk
    clear hk e
    walk_at "ws"
    refine iteN (fun q3 => ?_) fun q3 => ?_
    · subst q3
      refine s_ret (w_bl (no (badM _ hdm fun ⟨m, h, he⟩ => Bool.false_ne_true (hk1.mpr ⟨m.2, (inj2 h).2, he.2, Nat.zero_le _, ?_⟩))))
      rw [(inj2 h).2] at hbz
      have := hbz.lenS
      omega
    obtain ⟨z, rfl, hz, _, _⟩ := hk1.mp q3
    have hns : SeqAt.shaped (.str n) = true := by
      have := haz.ok
      exact (Nz.mk (b := false) (by simpa [okD] using this) (by simp [PyData.depth]) (by simpa [PyData.weight] using haz.wt)).shaped
    refine s_next (s_if (w_test (w_op (w_op (w_var rfl (w_int (o_ixT (d := .str n) rfl (w_mapL rs rD PyData.str (·.1) rfl (lineK (by have := o.r6; omega)) (i_anyL (w_op (w_var rfl (w_int (o_ixT (d := .list (rs.map rD)) rfl ⟨_, rfl, rfl, rfl⟩))))) (fun a ha => w_op (w_var rfl (w_int (o_ixT (d := .str a.1) rfl ⟨rfl, rfl⟩)))) (o_notInA hns (names_shaped (by rw [List.length_map]; have := o.r6; omega) fun x hx => ?_) ⟨_, rfl, ?_⟩)))))))))
    · obtain ⟨r, hr', rfl⟩ := List.mem_map.mp hx
      exact (o.hr r hr').1
    rw [any_str]
    refine iteN (fun q4 => ?_) fun q4 => ?_
    · rw [decide_eq_false_iff_not] at q4
      refine s_ret (w_bl (no (badM _ hdm fun ⟨m, h, he⟩ => q4 ?_)))
      have := (inj2 h).1
      injection this with this
      rw [this]
      exact he.1
    · rw [decide_eq_true_eq] at q4
      refine s_next ⟨ms ++ [(n, z)], .dat (.tuple [.str n, .str z]), rfl, ?_, fun m hm' => ?_⟩
      · rw [mem_take_get hd, er, List.map_append]
        rfl
      · rcases List.mem_append.mp hm' with q | q
        · exact hm m q
        · rw [List.mem_singleton.mp q]
          exact ⟨q4, hz⟩
end
end K81


namespace K81
open PySem PySem.Spec PyProof.Rows L2 DL ErX
open Evl (Ex)
local macro_rules | `(tactic| walk_at "sz") => `(tactic| first | assumption | (rw [sizeLine_eq]; simp only [List.length_cons, List.length_nil, List.length_append, List.length_map, List.length_replicate, List.length_range]; omega) | (rw [sizeLine_eq]; simp; done) | (rw [sizeLine_eq]; simp; omega) | omega)
local macro_rules | `(tactic| walk_at "sh") => `(tactic| first | assumption | exact shaped_int _ | rfl | (exact ty_shaped (by assumption)) | (decide +kernel))
local macro_rules | `(tactic| walk_at "w") => `(tactic| first
  | ((with_reducible refine' w_var ?hv ?_); (case hv => rfl))
  | (with_reducible refine s_seq ?_)
  | (with_reducible refine s_set ?_)
  | (with_reducible refine s_ret ?_)
  | (with_reducible refine s_if ?_)
  | (with_reducible refine s_next ?_)
  | (with_reducible refine x_seq ?_)
  | (with_reducible refine x_if ?_)
  | ((with_reducible refine' w_isi ?_ ?_); decide)
  | (with_reducible refine w_callB ?_)
  | (with_reducible refine w_op ?_)
  | (with_reducible refine w_cons ?_)
  | (with_reducible refine w_nil ?_)
  | (with_reducible refine w_int ?_)
  | (with_reducible refine w_str ?_)
  | (with_reducible refine w_bl ?_)
  | (with_reducible refine w_non ?_)
  | (with_reducible refine w_test ?_)
  | (with_reducible refine w_tB ?_)
  | (with_reducible refine w_and ?_)
  | (with_reducible refine w_or ?_)
  | (with_reducible refine w_not ?_)
  | (with_reducible refine w_andV ?_)
  | (with_reducible refine w_orV ?_)
  | (with_reducible refine w_notV ?_)
  | (with_reducible refine w_if ?_)
  | ((with_reducible refine' w_chain ?hh ?hv); (case hv => rfl))
  | (with_reducible refine w_lst ?_)
  | (with_reducible refine w_tup ?_)
  | (with_reducible refine w_dnew ?_)
  | (with_reducible refine o_addI ?_)
  | (with_reducible refine o_subI ?_)
  | (with_reducible refine o_ltI ?_)
  | (with_reducible refine o_leI ?_)
  | (with_reducible refine o_gtI ?_)
  | (with_reducible refine o_geI ?_)
  | (with_reducible refine o_ltS ?_)
  | (with_reducible refine o_leS ?_)
  | (with_reducible refine o_gtS ?_)
  | (with_reducible refine o_geS ?_)
  | (with_reducible refine o_eqS ?_)
  | (with_reducible refine o_neS ?_)
  | (with_reducible refine o_isN ?_)
  | (with_reducible refine o_notN ?_)
  | (with_reducible refine o_isB ?_)
  | (with_reducible refine c_lenL ?_)
  | (with_reducible refine c_lenT ?_)
  | (with_reducible refine c_int ?_)
  | (with_reducible refine c_intB ?_)
  | (with_reducible refine c_ord ?_)
  | (with_reducible refine c_tupL ?_)
  | (with_reducible refine c_listL ?_)
  | (with_reducible refine c_listT ?_)
  | ((with_reducible refine o_eq ?_ ?_ ?_); (walk_at "sh"); (walk_at "sh"))
  | ((with_reducible refine o_ne ?_ ?_ ?_); (walk_at "sh"); (walk_at "sh"))
  | ((with_reducible refine' o_ixL ?hv ?_); (case hv => rfl))
  | ((with_reducible refine' o_ixT ?hv ?_); (case hv => rfl))
  | ((with_reducible refine o_modI ?_ ?_); (walk_at "sz"))
  | ((with_reducible refine o_addL ?_ ?_); (walk_at "sz"))
  | ((with_reducible refine o_addS ?_ ?_); (walk_at "sz"))
  | ((with_reducible refine o_addT ?_ ?_); (walk_at "sz"))
  | ((with_reducible refine c_lenS ?_ ?_); (walk_at "sz"))
  | refine iteT ?_
  | refine iteF ?_
  | refine And.intro (show _ ≤ sizeLine by walk_at "sz") ?_
  | refine ⟨_, rfl, ?_⟩
  | (refine' o_ixT ?hv ?_; (case hv => rfl))
  | (refine' o_ixL ?hv ?_; (case hv => rfl))
  | refine w_call ?_
  | refine w_callR ?_)
local macro_rules | `(tactic| walk_at "ws") => `(tactic| repeat walk_at "w")

local macro_rules | `(tactic| walk_at "ln") => `(tactic| first | exact Nat.le_of_ble_eq_true rfl | (simp only [List.length_append, List.length_map, List.length_cons, List.length_nil, List.length_take, List.length_drop]; omega) | (exact cut_le (by walk_at "ln")) | (exact len_app (by walk_at "ln") (by walk_at "ln") (by decide)))
local macro_rules | `(tactic| walk_at "cl") => `(tactic| first
  | with_reducible assumption
  | with_reducible exact Al.nil
  | with_reducible exact Cl.non
  | with_reducible exact Cl.dct
  | with_reducible exact Cl.int
  | ((with_reducible refine Cl.lit ?_); decide)
  | ((with_reducible refine Al.cons ?_ ?_); (focus (walk_at "cl")); (focus (walk_at "cl")))
  | ((with_reducible refine Al.app ?_ ?_); (focus (walk_at "cl")); (focus (walk_at "cl")))
  | ((with_reducible refine Al.cut ?_); walk_at "cl")
  | ((with_reducible refine Cl.tup ?_ ?_); (focus (walk_at "cl")); (focus (walk_at "ln")))
  | ((with_reducible refine Cl.list ?_ ?_); (focus (walk_at "cl")); (focus (walk_at "ln")))
  | ((with_reducible refine Cl.up ?_); walk_at "cl")
  | ((with_reducible refine Al.up ?_); walk_at "cl"))
section
variable {P : Program} {w : World} {K : PySem.W.Frag} {mg : Str → Option Value} {base : Heap} {CF CX CT : Addr}
theorem okC_u {c : Nat} (h : okC c = true) : c < 0x110000 := Nat.lt_trans (okC_lt h) (by decide)
theorem cl_name {b : Bool} {n : Nat} {z : Str} (h : IsName z) : Cl b n (.str z) := Cl.str (name_lt h) (Nat.le_trans h.2.1 (by decide))
theorem cl_sh {b : Bool} {n k : Nat} {z : Str} (h : Sh k z) (hk : k ≤ 13 := by decide) : Cl b n (.str z) := Cl.str (fun c hc => okC_u (h.1 c hc)) (Nat.le_trans h.2.2 hk)
theorem cl_role {b : Bool} {r : Str × Str × Str} (h : RoleOk r) : Cl b 1 (rD r) := Cl.tup (Al.cons (cl_name h.1) (Al.cons (cl_sh h.2.1) (Al.cons (cl_sh h.2.2) Al.nil))) (Nat.le_of_ble_eq_true rfl)
theorem al_roles {b : Bool} {rs : List (Str × Str × Str)} (h : ∀ r ∈ rs, RoleOk r) : Al b 1 (rs.map rD) := fun x hx => by
  obtain ⟨r, hr, rfl⟩ := List.mem_map.mp hx
  exact cl_role (h r hr)
theorem cl_escs {b : Bool} {es : List (Nat × Str)} (h : ∀ e ∈ es, EscOk e) (hl : es.length ≤ 12) : Cl b 2 (.list (es.map eD)) := Cl.lift (Sm.list (D := 1) (W := 2 * 5) (n := 12) (fun x hx => by
  obtain ⟨e, he, rfl⟩ := List.mem_map.mp hx
  refine Sm.tup (D := 0) (W := 4) (n := 2) (fun y hy => ?_) (Nat.le_refl 2)
  rcases List.mem_cons.mp hy with q | q
  · rw [q]
    refine (Sm.str (W := 1) (z := sg e.1) (fun c hc => ?_) (Nat.le_refl 1)).mono (Nat.le_refl 0) (by decide)
    have : c = e.1 := by simpa [sg] using hc
    rw [this]
    exact okC_u (h e he).1
  · rw [List.mem_singleton.mp q]
    exact Sm.str (fun c hc => okC_u ((h e he).2.1 c hc)) (h e he).2.2.2) (by rw [List.length_map]; exact hl)) (by decide) (by decide)
theorem al_msgs {b : Bool} {rs : List (Str × Str × Str)} {ms : List (Str × Str)} (hr : ∀ r ∈ rs, RoleOk r) (h : ∀ m ∈ ms, MsgOk rs m ∧ m.2.length ≤ 5) : Al b 1 (ms.map mD) := fun x hx => by
  obtain ⟨m, hm, rfl⟩ := List.mem_map.mp hx
  obtain ⟨r, h1, h2⟩ := List.mem_map.mp (h m hm).1.1
  refine Cl.tup (Al.cons ?_ (Al.cons (Cl.str (fun c hc => okC_u ((h m hm).1.2 c hc)) (Nat.le_trans (h m hm).2 (by decide))) Al.nil)) (Nat.le_of_ble_eq_true rfl)
  rw [← h2]
  exact cl_name (hr r h1).1
abbrev s_law_bent_talks : Stmt := top 53
theorem sc_law_bent_talks : FnScope ["generator", "form", "talk", "name", "found"] ["generator", "form", "talk"] (defScope s_law_bent_talks) := ⟨rfl, rfl, rfl, by decide +kernel, rfl, by decide +kernel, by decide +kernel⟩
def sp_law_bent_talks  : Sp := spG 2 (fun g ds => ∃ (rs : List (Str × Str × Str)) (es : List (Nat × Str)) (ms : List (Str × Str)), ds = [fD rs es, .list (ms.map mD)] ∧ FormOk rs es ∧ ms.length ≤ 4 ∧ (∀ m ∈ ms, MsgOk rs m ∧ m.2.length ≤ 5) ∧ GB 1 g) (fun g ds d g' => ∃ xs : List PyData, d = .list xs ∧ xs.length ≤ 60 ∧ Al true 4 xs ∧ GS 1 g g')
theorem d_law_bent_talks (T : Bl mg) (F : FunAt K mg "_law_bent_talks" s_law_bent_talks)   : Df P w K mg base CX0 1 "_law_bent_talks" ["generator", "form", "talk"] [] sp_law_bent_talks := by
  refine df_of F sc_law_bent_talks (spG_len rfl) (fun _ _ _ _ _ _ _ us hl => match us, hl with | [_, _, _], _ => rfl) fun f cdv A outer s H E hr => ?_
  refine ⟨_, (pss_cons (ps_set (i := 3) sc_law_bent_talks.nd rfl (Or.inl rfl) (pe_ix ix_seq (pe_ix ix_seq (pe_ix ix_seq (pv 1) pe_int (fun _ _ => rfl)) pe_int (fun _ _ => rfl)) pe_int (fun _ _ => rfl))) (pss_cons (ps_set (i := 4) sc_law_bent_talks.nd rfl (Or.inl rfl) (pe_lst (pa_cons pe_non (pa_cons (pe_callTy call_tuple_of (by rfl) T.tuple_ (by rfl) (pa_cons (pv 2) pa_nil)) (pa_cons (pe_op op_addX (pv 2) (pe_lst (pa_cons (pe_tup (pa_cons (pv 3) (pa_cons pe_str pa_nil))) pa_nil))) (pa_cons (pe_op op_addX (pv 2) (pe_lst (pa_cons (pe_tup (pa_cons (pv 3) pa_nil)) pa_nil))) (pa_cons (pe_op op_addX (pv 2) (pe_lst (pa_cons (pe_lst (pa_cons (pv 3) (pa_cons pe_str pa_nil))) pa_nil))) (pa_cons (pe_op op_addX (pv 2) (pe_lst (pa_cons (pe_tup (pa_cons pe_str (pa_cons pe_str pa_nil))) pa_nil))) (pa_cons (pe_op op_addX (pv 2) (pe_lst (pa_cons (pe_tup (pa_cons (pv 3) (pa_cons pe_non pa_nil))) pa_nil))) pa_nil))))))))) (pss_cons (ps_set (i := 4) sc_law_bent_talks.nd rfl (Or.inl rfl) (pe_op op_addX (pv 4) (pe_lst (pa_cons (pe_op op_addX (pv 2) (pe_lst (pa_cons (pe_tup (pa_cons (pe_lst (pa_cons (pv 3) pa_nil)) (pa_cons pe_str pa_nil))) pa_nil))) (pa_cons (pe_op op_addX (pv 2) (pe_lst (pa_cons (pe_tup (pa_cons (pv 3) (pa_cons (pe_lst (pa_cons pe_str pa_nil)) pa_nil))) pa_nil))) (pa_cons (pe_op op_addX (pv 2) (pe_lst (pa_cons (pe_op op_addX (pv 3) pe_str) pa_nil))) (pa_cons (pe_op op_addX (pv 2) (pe_lst (pa_cons (pe_tup (pa_cons pe_dnewK (pa_cons pe_str pa_nil))) pa_nil))) (pa_cons (pe_op op_addX (pe_lst (pa_cons (pe_tup (pa_cons (pv 3) (pa_cons pe_str pa_nil))) pa_nil)) (pv 2)) pa_nil)))))))) (pss_one (ps_ret (pe_op op_addX (pv 4) (pe_lst (pa_cons (pe_op op_addX (pv 2) (pe_lst (pa_cons (pe_tup (pa_cons (pv 3) (pa_cons pe_str (pa_cons pe_str pa_nil)))) pa_nil))) (pa_cons (pe_op op_addX (pe_lst (pa_cons (pe_tup (pa_cons pe_non (pa_cons pe_str pa_nil))) pa_nil)) (pv 2)) (pa_cons (pe_op op_addX (pv 2) (pe_lst (pa_cons (pe_tup (pa_cons (pv 3) (pa_cons pe_str pa_nil))) pa_nil))) (pa_cons (pe_op op_addX (pv 2) (pe_lst (pa_cons (pe_tup (pa_cons pe_str (pa_cons pe_str pa_nil))) pa_nil))) (pa_cons pe_str (pa_cons pe_dnewK (pa_cons (pe_lst (pa_cons (pv 2) pa_nil)) pa_nil)))))))))))))), fun vs Q h => ?_⟩
  refine body_G (n := 2) (k := 2) rfl (fun g ds hl ⟨rs, es, ms, e, o, hm4, hm, hg⟩ => ?_) vs H Q E h
  subst e
  obtain ⟨r, rs, rfl⟩ : ∃ r rs', rs = r :: rs' := by
    cases rs with
    | nil => exact absurd o.r1 (by decide)
    | cons r rs => exact ⟨r, rs, rfl⟩
  have nm := (o.hr r (by simp)).1
  have aT : Al true 1 (ms.map mD) := al_msgs o.hr hm
  have cN : Cl true 0 (.str r.1) := cl_name nm
  have cNa : Cl true 0 (.str (r.1 ++ "a")) := Cl.str (fun c hc => by
    rw [Str.cps_append, Array.toList_append] at hc
    rcases List.mem_append.mp hc with q | q
    · exact name_lt nm c q
    · have : c = 97 := by
        have e : ("a" : Str).cps.toList = [97] := rfl
        rw [e] at q
        simpa using q
      omega) (by
    rw [Str.length_append]
    have := nm.2.1
    have e : ("a" : Str).length = 1 := rfl
    omega)
  have lN := nm.2.1
  have lA : ("a" : Str).length = 1 := rfl
  refine s_seq (s_set (w_op (w_op (w_op (w_var rfl (w_int (o_ixT (d := .list ((r :: rs).map rD)) rfl (w_int (o_ixL (atI_nat (j := 0) (v := rD r) rfl) (w_int (o_ixT (d := .str r.1) rfl ?_)))))))))))
  refine s_seq (s_set (w_lst ((ea_cons (C := Cl true 4) (k := 6) ?_ (ea_cons (k := 5) ?_ (ea_cons (k := 4) ?_ (ea_cons (k := 3) ?_ (ea_cons (k := 2) ?_ (ea_cons (k := 1) ?_ (ea_cons (k := 0) ?_ ea_nil))))))).imp fun f1 ρ1 ⟨a1, l1, e1⟩ => ?_)))
  · exact w_non ⟨Cl.non, rfl⟩
  · refine w_callB (w_cons (w_var rfl (w_nil (c_tupL ⟨?_, rfl⟩))))
    walk_at "cl"
  · walk_at "ws"
    refine ⟨?_, rfl⟩
    walk_at "cl"
  · walk_at "ws"
    refine ⟨?_, rfl⟩
    walk_at "cl"
  · walk_at "ws"
    refine ⟨?_, rfl⟩
    walk_at "cl"
  · walk_at "ws"
    refine ⟨?_, rfl⟩
    walk_at "cl"
  · walk_at "ws"
    refine ⟨?_, rfl⟩
    walk_at "cl"
  subst e1
  refine ⟨by rw [l1]; decide, ?_⟩
  refine s_seq (s_set (w_op (w_var rfl (w_lst ((ea_cons (C := Cl true 4) (k := 4) ?_ (ea_cons (k := 3) ?_ (ea_cons (k := 2) ?_ (ea_cons (k := 1) ?_ (ea_cons (k := 0) ?_ ea_nil))))).imp fun f2 ρ1 ⟨a2, l2, e2⟩ => ?_)))))
  · walk_at "ws"
    refine ⟨?_, rfl⟩
    walk_at "cl"
  · walk_at "ws"
    refine ⟨?_, rfl⟩
    walk_at "cl"
  · refine w_op (w_var rfl (w_lst (w_cons (w_op (w_var rfl (w_str (o_addS (by rw [sizeLine_eq, lA]; omega) (w_nil ⟨(show (1 : Nat) ≤ sizeLine by decide), o_addL (by walk_at "sz") ⟨?_, rfl⟩⟩))))))))
    walk_at "cl"
  · walk_at "ws"
    refine ⟨?_, rfl⟩
    walk_at "cl"
  · walk_at "ws"
    refine ⟨?_, rfl⟩
    walk_at "cl"
  subst e2
  refine ⟨by rw [l2]; decide, o_addL (by rw [l1, l2]; decide) ?_⟩
  refine s_ret (w_op (w_var rfl (w_lst ((ea_cons (C := Cl true 4) (k := 6) ?_ (ea_cons (k := 5) ?_ (ea_cons (k := 4) ?_ (ea_cons (k := 3) ?_ (ea_cons (k := 2) ?_ (ea_cons (k := 1) ?_ (ea_cons (k := 0) ?_ ea_nil))))))).imp fun f3 ρ1 ⟨a3, l3, e3⟩ => ?_))))
  · walk_at "ws"
    refine ⟨?_, rfl⟩
    walk_at "cl"
  · walk_at "ws"
    refine ⟨?_, rfl⟩
    walk_at "cl"
  · walk_at "ws"
    refine ⟨?_, rfl⟩
    walk_at "cl"
  · walk_at "ws"
    refine ⟨?_, rfl⟩
    walk_at "cl"
  · exact w_str ⟨Cl.lit, rfl⟩
  · exact w_dnew ⟨Cl.dct, rfl⟩
  · walk_at "ws"
    refine ⟨?_, rfl⟩
    walk_at "cl"
  subst e3
  refine ⟨by rw [l3]; decide, o_addL (by rw [List.length_append, l1, l2, l3]; decide) ⟨g, rfl, _, rfl, ?_, Al.app (Al.app a1 a2) a3, hg.refl.le (by decide)⟩⟩
  rw [List.length_append, List.length_append, l1, l2, l3]
  decide
end
end K81


namespace K81
open PySem PySem.Spec PyProof.Rows L2 DL ErX
open Evl (Ex)
local macro_rules | `(tactic| walk_at "sz") => `(tactic| first | assumption | (rw [sizeLine_eq]; simp only [List.length_cons, List.length_nil, List.length_append, List.length_map, List.length_replicate, List.length_range]; omega) | (rw [sizeLine_eq]; simp; done) | (rw [sizeLine_eq]; simp; omega) | omega)
local macro_rules | `(tactic| walk_at "sh") => `(tactic| first | assumption | exact shaped_int _ | rfl | (exact ty_shaped (by assumption)) | (decide +kernel))
local macro_rules | `(tactic| walk_at "w") => `(tactic| first
  | ((with_reducible refine' w_var ?hv ?_); (case hv => rfl))
  | (with_reducible refine s_seq ?_)
  | (with_reducible refine s_set ?_)
  | (with_reducible refine s_ret ?_)
  | (with_reducible refine s_if ?_)
  | (with_reducible refine s_next ?_)
  | (with_reducible refine x_seq ?_)
  | (with_reducible refine x_if ?_)
  | ((with_reducible refine' w_isi ?_ ?_); decide)
  | (with_reducible refine w_callB ?_)
  | (with_reducible refine w_op ?_)
  | (with_reducible refine w_cons ?_)
  | (with_reducible refine w_nil ?_)
  | (with_reducible refine w_int ?_)
  | (with_reducible refine w_str ?_)
  | (with_reducible refine w_bl ?_)
  | (with_reducible refine w_non ?_)
  | (with_reducible refine w_test ?_)
  | (with_reducible refine w_tB ?_)
  | (with_reducible refine w_and ?_)
  | (with_reducible refine w_or ?_)
  | (with_reducible refine w_not ?_)
  | (with_reducible refine w_andV ?_)
  | (with_reducible refine w_orV ?_)
  | (with_reducible refine w_notV ?_)
  | (with_reducible refine w_if ?_)
  | ((with_reducible refine' w_chain ?hh ?hv); (case hv => rfl))
  | (with_reducible refine w_lst ?_)
  | (with_reducible refine w_tup ?_)
  | (with_reducible refine w_dnew ?_)
  | (with_reducible refine o_addI ?_)
  | (with_reducible refine o_subI ?_)
  | (with_reducible refine o_ltI ?_)
  | (with_reducible refine o_leI ?_)
  | (with_reducible refine o_gtI ?_)
  | (with_reducible refine o_geI ?_)
  | (with_reducible refine o_ltS ?_)
  | (with_reducible refine o_leS ?_)
  | (with_reducible refine o_gtS ?_)
  | (with_reducible refine o_geS ?_)
  | (with_reducible refine o_eqS ?_)
  | (with_reducible refine o_neS ?_)
  | (with_reducible refine o_isN ?_)
  | (with_reducible refine o_notN ?_)
  | (with_reducible refine o_isB ?_)
  | (with_reducible refine c_lenL ?_)
  | (with_reducible refine c_lenT ?_)
  | (with_reducible refine c_int ?_)
  | (with_reducible refine c_intB ?_)
  | (with_reducible refine c_ord ?_)
  | (with_reducible refine c_tupL ?_)
  | (with_reducible refine c_listL ?_)
  | (with_reducible refine c_listT ?_)
  | ((with_reducible refine o_eq ?_ ?_ ?_); (walk_at "sh"); (walk_at "sh"))
  | ((with_reducible refine o_ne ?_ ?_ ?_); (walk_at "sh"); (walk_at "sh"))
  | ((with_reducible refine' o_ixL ?hv ?_); (case hv => rfl))
  | ((with_reducible refine' o_ixT ?hv ?_); (case hv => rfl))
  | ((with_reducible refine o_modI ?_ ?_); (walk_at "sz"))
  | ((with_reducible refine o_addL ?_ ?_); (walk_at "sz"))
  | ((with_reducible refine o_addS ?_ ?_); (walk_at "sz"))
  | ((with_reducible refine o_addT ?_ ?_); (walk_at "sz"))
  | ((with_reducible refine c_lenS ?_ ?_); (walk_at "sz"))
  | refine iteT ?_
  | refine iteF ?_
  | refine And.intro (show _ ≤ sizeLine by walk_at "sz") ?_
  | refine ⟨_, rfl, ?_⟩
  | (refine' o_ixT ?hv ?_; (case hv => rfl))
  | (refine' o_ixL ?hv ?_; (case hv => rfl))
  | refine w_call ?_
  | refine w_callR ?_)
local macro_rules | `(tactic| walk_at "ws") => `(tactic| repeat walk_at "w")

local macro_rules | `(tactic| walk_at "ln") => `(tactic| first | exact Nat.le_of_ble_eq_true rfl | (simp only [List.length_append, List.length_map, List.length_cons, List.length_nil, List.length_take, List.length_drop]; omega) | (exact cut_le (by walk_at "ln")) | (exact len_app (by walk_at "ln") (by walk_at "ln") (by decide)))
local macro_rules | `(tactic| walk_at "cl") => `(tactic| first
  | with_reducible assumption
  | with_reducible exact Al.nil
  | with_reducible exact Cl.non
  | with_reducible exact Cl.dct
  | with_reducible exact Cl.int
  | ((with_reducible refine Cl.lit ?_); decide)
  | ((with_reducible refine Al.cons ?_ ?_); (focus (walk_at "cl")); (focus (walk_at "cl")))
  | ((with_reducible refine Al.app ?_ ?_); (focus (walk_at "cl")); (focus (walk_at "cl")))
  | ((with_reducible refine Al.cut ?_); walk_at "cl")
  | ((with_reducible refine Cl.tup ?_ ?_); (focus (walk_at "cl")); (focus (walk_at "ln")))
  | ((with_reducible refine Cl.list ?_ ?_); (focus (walk_at "cl")); (focus (walk_at "ln")))
  | ((with_reducible refine Cl.up ?_); walk_at "cl")
  | ((with_reducible refine Al.up ?_); walk_at "cl"))
section
variable {P : Program} {w : World} {K : PySem.W.Frag} {mg : Str → Option Value} {base : Heap} {CF CX CT : Addr}
abbrev s_law_bent_part : Stmt := top 51
theorem sc_law_bent_part : FnScope ["generator", "row", "odd", "at"] ["generator", "row", "odd"] (defScope s_law_bent_part) := ⟨rfl, rfl, rfl, by decide +kernel, rfl, by decide +kernel, by decide +kernel⟩
def sp_law_bent_part  : Sp := spG 2 (fun g ds => ∃ xs os : List PyData, ds = [.tuple xs, .list os] ∧ 0 < xs.length ∧ xs.length ≤ 10 ∧ 0 < os.length ∧ os.length ≤ 100 ∧ GB 12 g) (fun g ds d g' => ∃ (xs os : List PyData) (k : Nat) (x : PyData), ds = [.tuple xs, .list os] ∧ d = .tuple (xs.take k ++ [x] ++ xs.drop (k + 1)) ∧ k < xs.length ∧ x ∈ os ∧ GS 12 g g')
theorem d_law_bent_part (T : Bl mg) (F : FunAt K mg "_law_bent_part" s_law_bent_part)  (d_law_pick : Df P w K mg base CX0 3 "_law_pick" ["generator", "things"] [] sp_law_pick) (d_law_random : Df P w K mg base CX0 2 "_law_random" ["generator", "bound"] [] sp_law_random) : Df P w K mg base CX0 4 "_law_bent_part" ["generator", "row", "odd"] [] sp_law_bent_part := by
  refine df_of F sc_law_bent_part (spG_len rfl) (fun _ _ _ _ _ _ _ us hl => match us, hl with | [_, _, _], _ => rfl) fun f cdv A outer s H E hr => ?_
  refine ⟨_, (pss_cons (ps_set (i := 3) sc_law_bent_part.nd rfl (Or.inl rfl) (pe_def (E := E0) d_law_random hr (by decide) pass0 (pa_cons (pv 0) (pa_cons (pe_callB call_lenX (by rfl) T.len_ (by rfl) (pa_cons (pv 1) pa_nil)) pa_nil)))) (pss_one (ps_ret (pe_op op_addX (pe_op op_addX (pe_slice sl_X (pv 1) po_none (po_some (pv 3))) (pe_tup (pa_cons (pe_def (E := E0) d_law_pick hr (by decide) pass0 (pa_cons (pv 0) (pa_cons (pv 2) pa_nil))) pa_nil))) (pe_slice sl_X (pv 1) (po_some (pe_op op_addX (pv 3) pe_int)) po_none))))), fun vs Q h => ?_⟩
  refine body_G (n := 2) (k := 1) rfl (fun g ds hl ⟨xs, os, e, x0, x1, o0, o1, hg⟩ => ?_) vs H Q E h
  subst e
  refine (s_seq (s_set (w_callG rfl (w_cons (w_callB (w_cons (w_var rfl (w_nil (c_lenT (w_nil (⟨g, rfl, one0 (by simp [rho0, List.replicate, ng_dat, ng_no]), rfl, ⟨_, rfl, by omega, by omega, hg.le (by decide)⟩, ?_⟩)))))))))))
  rintro d g1 ⟨L, r, e, rfl, r0, r1, hs⟩
  cases e
  obtain ⟨k, rfl⟩ := Int.eq_ofNat_of_zero_le r0
  have hk : k < xs.length := by omega
  refine s_ret (w_op (w_op (w_slXT (w_var rfl (b_no (b_at (w_var rfl ⟨_, rfl, _, rfl, ?_⟩)))))))
  rw [cut_t]
  refine (w_tup (w_cons (w_callG rfl (w_cons (w_var rfl (w_nil (⟨g1, rfl, one0 (by simp [rho0, List.replicate, ng_dat, ng_no]), rfl, ⟨_, rfl, .inl ⟨_, rfl⟩, o0, by show os.length ≤ 1000; omega, hs.gb (hg.le (by decide))⟩, ?_⟩)))))))
  rintro d g2 ⟨x, e, hd, hs2⟩
  cases e
  have hx : d ∈ os := by
    rcases hd with ⟨ys, e, h⟩ | ⟨_, _, e, _⟩
    · cases e
      exact h
    · cases e
  refine w_nil ⟨(show (1 : Nat) ≤ sizeLine by decide), o_addT (by rw [sizeLine_eq, List.length_take]; simp only [List.length_singleton]; omega) ?_⟩
  refine w_slXT (w_var rfl (b_at (w_op (w_var rfl (w_int (o_addI ⟨_, rfl, b_no ⟨_, rfl, ?_⟩⟩))))))
  rw [show (k : Int) + 1 = ((k + 1 : Nat) : Int) from rfl, cut_fr]
  exact o_addT (by rw [sizeLine_eq, List.length_append, List.length_take, List.length_drop]; simp only [List.length_singleton]; omega) ⟨g2, rfl, xs, os, k, d, rfl, rfl, hk, hx, hs.trans hs2⟩
theorem bent_al {b : Bool} {n k : Nat} {x : PyData} {xs os : List PyData} (h : Al b n xs) (ho : Al b n os) (hx : x ∈ os) : Al b n (xs.take k ++ [x] ++ xs.drop (k + 1)) := Al.app (Al.app h.take (Al.cons (ho x hx) Al.nil)) h.drop
theorem bent_len {k : Nat} {x : PyData} {xs : List PyData} (hk : k < xs.length) : (xs.take k ++ [x] ++ xs.drop (k + 1)).length = xs.length := by
  rw [List.length_append, List.length_append, List.length_take, List.length_drop, List.length_singleton]
  omega
theorem eqv_rD {r : Str × Str × Str} : PyData.eqv (rD r) (rD r) = true := by simp [rD, PyData.eqv, PyData.eqvAll]
end
end K81


namespace K81
open PySem PySem.Spec PyProof.Rows L2 DL ErX
open Evl (Ex)
local macro_rules | `(tactic| walk_at "sz") => `(tactic| first | assumption | (rw [sizeLine_eq]; simp only [List.length_cons, List.length_nil, List.length_append, List.length_map, List.length_replicate, List.length_range]; omega) | (rw [sizeLine_eq]; simp; done) | (rw [sizeLine_eq]; simp; omega) | omega)
local macro_rules | `(tactic| walk_at "sh") => `(tactic| first | assumption | exact shaped_int _ | rfl | (exact ty_shaped (by assumption)) | (decide +kernel))
local macro_rules | `(tactic| walk_at "w") => `(tactic| first
  | ((with_reducible refine' w_var ?hv ?_); (case hv => rfl))
  | (with_reducible refine s_seq ?_)
  | (with_reducible refine s_set ?_)
  | (with_reducible refine s_ret ?_)
  | (with_reducible refine s_if ?_)
  | (with_reducible refine s_next ?_)
  | (with_reducible refine x_seq ?_)
  | (with_reducible refine x_if ?_)
  | ((with_reducible refine' w_isi ?_ ?_); decide)
  | (with_reducible refine w_callB ?_)
  | (with_reducible refine w_op ?_)
  | (with_reducible refine w_cons ?_)
  | (with_reducible refine w_nil ?_)
  | (with_reducible refine w_int ?_)
  | (with_reducible refine w_str ?_)
  | (with_reducible refine w_bl ?_)
  | (with_reducible refine w_non ?_)
  | (with_reducible refine w_test ?_)
  | (with_reducible refine w_tB ?_)
  | (with_reducible refine w_and ?_)
  | (with_reducible refine w_or ?_)
  | (with_reducible refine w_not ?_)
  | (with_reducible refine w_andV ?_)
  | (with_reducible refine w_orV ?_)
  | (with_reducible refine w_notV ?_)
  | (with_reducible refine w_if ?_)
  | ((with_reducible refine' w_chain ?hh ?hv); (case hv => rfl))
  | (with_reducible refine w_lst ?_)
  | (with_reducible refine w_tup ?_)
  | (with_reducible refine w_dnew ?_)
  | (with_reducible refine o_addI ?_)
  | (with_reducible refine o_subI ?_)
  | (with_reducible refine o_ltI ?_)
  | (with_reducible refine o_leI ?_)
  | (with_reducible refine o_gtI ?_)
  | (with_reducible refine o_geI ?_)
  | (with_reducible refine o_ltS ?_)
  | (with_reducible refine o_leS ?_)
  | (with_reducible refine o_gtS ?_)
  | (with_reducible refine o_geS ?_)
  | (with_reducible refine o_eqS ?_)
  | (with_reducible refine o_neS ?_)
  | (with_reducible refine o_isN ?_)
  | (with_reducible refine o_notN ?_)
  | (with_reducible refine o_isB ?_)
  | (with_reducible refine c_lenL ?_)
  | (with_reducible refine c_lenT ?_)
  | (with_reducible refine c_int ?_)
  | (with_reducible refine c_intB ?_)
  | (with_reducible refine c_ord ?_)
  | (with_reducible refine c_tupL ?_)
  | (with_reducible refine c_listL ?_)
  | (with_reducible refine c_listT ?_)
  | ((with_reducible refine o_eq ?_ ?_ ?_); (walk_at "sh"); (walk_at "sh"))
  | ((with_reducible refine o_ne ?_ ?_ ?_); (walk_at "sh"); (walk_at "sh"))
  | ((with_reducible refine' o_ixL ?hv ?_); (case hv => rfl))
  | ((with_reducible refine' o_ixT ?hv ?_); (case hv => rfl))
  | ((with_reducible refine o_modI ?_ ?_); (walk_at "sz"))
  | ((with_reducible refine o_addL ?_ ?_); (walk_at "sz"))
  | ((with_reducible refine o_addS ?_ ?_); (walk_at "sz"))
  | ((with_reducible refine o_addT ?_ ?_); (walk_at "sz"))
  | ((with_reducible refine c_lenS ?_ ?_); (walk_at "sz"))
  | refine iteT ?_
  | refine iteF ?_
  | refine And.intro (show _ ≤ sizeLine by walk_at "sz") ?_
  | refine ⟨_, rfl, ?_⟩
  | (refine' o_ixT ?hv ?_; (case hv => rfl))
  | (refine' o_ixL ?hv ?_; (case hv => rfl))
  | refine w_call ?_
  | refine w_callR ?_)
local macro_rules | `(tactic| walk_at "ws") => `(tactic| repeat walk_at "w")

local macro_rules | `(tactic| walk_at "ln") => `(tactic| first | exact Nat.le_of_ble_eq_true rfl | (simp only [List.length_append, List.length_map, List.length_cons, List.length_nil, List.length_take, List.length_drop]; omega) | (exact cut_le (by walk_at "ln")) | (exact len_app (by walk_at "ln") (by walk_at "ln") (by decide)))
local macro_rules | `(tactic| walk_at "cl") => `(tactic| first
  | with_reducible assumption
  | with_reducible exact Al.nil
  | with_reducible exact Cl.non
  | with_reducible exact Cl.dct
  | with_reducible exact Cl.int
  | ((with_reducible refine Cl.lit ?_); decide)
  | ((with_reducible refine Al.cons ?_ ?_); (focus (walk_at "cl")); (focus (walk_at "cl")))
  | ((with_reducible refine Al.app ?_ ?_); (focus (walk_at "cl")); (focus (walk_at "cl")))
  | ((with_reducible refine Al.cut ?_); walk_at "cl")
  | ((with_reducible refine Cl.tup ?_ ?_); (focus (walk_at "cl")); (focus (walk_at "ln")))
  | ((with_reducible refine Cl.list ?_ ?_); (focus (walk_at "cl")); (focus (walk_at "ln")))
  | ((with_reducible refine Cl.up ?_); walk_at "cl")
  | ((with_reducible refine Al.up ?_); walk_at "cl"))
section
variable {P : Program} {w : World} {K : PySem.W.Frag} {mg : Str → Option Value} {base : Heap} {CF CX CT : Addr}
theorem cl_escsT {b : Bool} {es : List (Nat × Str)} (h : ∀ e ∈ es, EscOk e) (hl : es.length ≤ 12) : Cl b 2 (.tuple (es.map eD)) := Cl.lift (Sm.tup (D := 1) (W := 2 * 5) (n := 12) (fun x hx => by
  obtain ⟨e, he, rfl⟩ := List.mem_map.mp hx
  refine Sm.tup (D := 0) (W := 4) (n := 2) (fun y hy => ?_) (Nat.le_refl 2)
  rcases List.mem_cons.mp hy with q | q
  · rw [q]
    refine (Sm.str (W := 1) (z := sg e.1) (fun c hc => ?_) (Nat.le_refl 1)).mono (Nat.le_refl 0) (by decide)
    have : c = e.1 := by simpa [sg] using hc
    rw [this]
    exact okC_u (h e he).1
  · rw [List.mem_singleton.mp q]
    exact Sm.str (fun c hc => okC_u ((h e he).2.1 c hc)) (h e he).2.2.2) (by rw [List.length_map]; exact hl)) (by decide) (by decide)
def Wd (x : PyData) : Prop := ∃ c, c < 0x110000 ∧ x = .tuple [.str (sg c), .str "ab"]
theorem cl_wide {b : Bool} {xs : List PyData} (h : ∀ x ∈ xs, Wd x) (hl : xs.length ≤ 13) : Cl b 2 (.list xs) := Cl.lift (Sm.list (D := 1) (W := 2 * 3) (n := 13) (fun x hx => by
  obtain ⟨c, hc, rfl⟩ := h x hx
  refine Sm.tup (D := 0) (W := 2) (n := 2) (fun y hy => ?_) (Nat.le_refl 2)
  rcases List.mem_cons.mp hy with q | q
  · rw [q]
    refine (Sm.str (W := 1) (z := sg c) (fun c' hc' => ?_) (Nat.le_refl 1)).mono (Nat.le_refl 0) (by decide)
    have : c' = c := by simpa [sg] using hc'
    rw [this]
    exact hc
  · rw [List.mem_singleton.mp q]
    exact Sm.str (by decide) (by decide)) hl) (by decide) (by decide)
abbrev s_law_bent_forms : Stmt := top 52
theorem sc_law_bent_forms : FnScope ["generator", "form", "found", "texts", "turn", "role", "at", "bent", "odd", "many", "wide"] ["generator", "form"] (defScope s_law_bent_forms) := ⟨rfl, rfl, rfl, by decide +kernel, rfl, by decide +kernel, by decide +kernel⟩
def sp_law_bent_forms  : Sp := spG 1 (fun g ds => ∃ (rs : List (Str × Str × Str)) (es : List (Nat × Str)), ds = [fD rs es] ∧ FormOk rs es ∧ GB 120 g) (fun g ds d g' => ∃ xs : List PyData, d = .list xs ∧ xs.length ≤ 60 ∧ Al false 4 xs ∧ GS 120 g g')
theorem d_law_bent_forms (T : Bl mg) (F : FunAt K mg "_law_bent_forms" s_law_bent_forms)  (d_law_bent_part : Df P w K mg base CX0 4 "_law_bent_part" ["generator", "row", "odd"] [] sp_law_bent_part) (d_law_pick : Df P w K mg base CX0 3 "_law_pick" ["generator", "things"] [] sp_law_pick) : Df P w K mg base CX0 5 "_law_bent_forms" ["generator", "form"] [] sp_law_bent_forms := by
  refine df_of F sc_law_bent_forms (spG_len rfl) (fun _ _ _ _ _ _ _ us hl => match us, hl with | [_, _], _ => rfl) fun f cdv A outer s H E hr => ?_
  refine ⟨_, (pss_cons (ps_set (i := 2) sc_law_bent_forms.nd rfl (Or.inl rfl) (pe_lst (pa_cons pe_non (pa_cons (pe_callTy call_listX (by rfl) T.list_ (by rfl) (pa_cons (pv 1) pa_nil)) (pa_cons (pe_slice sl_X (pv 1) po_none (po_some pe_int)) (pa_cons (pe_op op_addX (pv 1) (pe_tup (pa_cons pe_non pa_nil))) (pa_cons (pe_op op_addX (pe_tup (pa_cons pe_str pa_nil)) (pe_slice sl_X (pv 1) (po_some pe_int) po_none)) (pa_cons (pe_op op_addX (pe_tup (pa_cons (pe_lst (pa_cons pe_str pa_nil)) pa_nil)) (pe_slice sl_X (pv 1) (po_some pe_int) po_none)) (pa_cons (pe_tup (pa_cons pe_str (pa_cons (pe_lst pa_nil) (pa_cons (pe_ix ix_seq (pv 1) pe_int (fun _ _ => rfl)) pa_nil)))) (pa_cons (pe_tup (pa_cons pe_str (pa_cons (pe_callTy call_tuple_of (by rfl) T.tuple_ (by rfl) (pa_cons (pe_ix ix_seq (pv 1) pe_int (fun _ _ => rfl)) pa_nil)) (pa_cons (pe_ix ix_seq (pv 1) pe_int (fun _ _ => rfl)) pa_nil)))) pa_nil)))))))))) (pss_cons (ps_set (i := 3) sc_law_bent_forms.nd rfl (Or.inl rfl) (pe_lst (pa_cons pe_str (pa_cons (pe_op op_repS pe_str pe_int) (pa_cons (pe_op op_repS pe_str pe_int) (pa_cons pe_str (pa_cons pe_str (pa_cons pe_str (pa_cons pe_str (pa_cons pe_non (pa_cons pe_int (pa_cons (pe_lst (pa_cons pe_str pa_nil)) (pa_cons pe_str (pa_cons pe_str (pa_cons pe_str (pa_cons pe_str (pa_cons (pe_ix ix_seq (pe_ix ix_seq (pe_ix ix_seq (pv 1) pe_int (fun _ _ => rfl)) (pe_un un_neg pe_int) (fun _ _ => rfl)) pe_int (fun _ _ => rfl)) pa_nil))))))))))))))))) (pss_cons (ps_for PassesOwn.never rfl (pi_range1 (by rfl) T.range_ (pa_cons pe_int pa_nil)) (pg_name (i := 4) sc_law_bent_forms.nd rfl (Or.inl rfl)) (pss_cons (ps_set (i := 5) sc_law_bent_forms.nd rfl (Or.inl rfl) (pe_def (E := E0) d_law_pick hr (by decide) pass0 (pa_cons (pv 0) (pa_cons (pe_ix ix_seq (pv 1) pe_int (fun _ _ => rfl)) pa_nil)))) (pss_cons (ps_set (i := 6) sc_law_bent_forms.nd rfl (Or.inl rfl) (pe_bm PySem.F.plainAttrs_list PySem.F.slot_list_index PySem.F.type_list_index (mt_indexD (un65 hr)) (pe_ix ix_seq (pv 1) pe_int (fun _ _ => rfl)) (pa_cons (pv 5) pa_nil))) (pss_cons (ps_set (i := 7) sc_law_bent_forms.nd rfl (Or.inl rfl) (pe_def (E := E0) d_law_bent_part hr (by decide) pass0 (pa_cons (pv 0) (pa_cons (pv 5) (pa_cons (pv 3) pa_nil))))) (pss_one (ps_expr (pe_bm PySem.F.plainAttrs_list PySem.F.slot_list_append PySem.F.type_list_append mt_append (pv 2) (pa_cons (pe_tup (pa_cons pe_str (pa_cons (pe_op op_addX (pe_op op_addX (pe_slice sl_X (pe_ix ix_seq (pv 1) pe_int (fun _ _ => rfl)) po_none (po_some (pv 6))) (pe_lst (pa_cons (pv 7) pa_nil))) (pe_slice sl_X (pe_ix ix_seq (pv 1) pe_int (fun _ _ => rfl)) (po_some (pe_op op_addX (pv 6) pe_int)) po_none)) (pa_cons (pe_ix ix_seq (pv 1) pe_int (fun _ _ => rfl)) pa_nil)))) pa_nil)))))))) (pss_cons (ps_set (i := 5) sc_law_bent_forms.nd rfl (Or.inl rfl) (pe_ix ix_seq (pe_ix ix_seq (pv 1) pe_int (fun _ _ => rfl)) (pe_un un_neg pe_int) (fun _ _ => rfl))) (pss_cons (ps_for PassesOwn.never rfl (pi_any (pe_lst (pa_cons (pe_callTy call_listX (by rfl) T.list_ (by rfl) (pa_cons (pv 5) pa_nil)) (pa_cons (pe_op op_addX (pv 5) (pe_tup (pa_cons pe_str pa_nil))) (pa_cons (pe_slice sl_X (pv 5) po_none (po_some pe_int)) (pa_cons pe_str (pa_cons pe_non (pa_cons (pe_op op_addX (pe_tup (pa_cons pe_str pa_nil)) (pe_slice sl_X (pv 5) (po_some pe_int) po_none)) (pa_cons (pe_tup pa_nil) pa_nil))))))))) (pg_name (i := 8) sc_law_bent_forms.nd rfl (Or.inl rfl)) (pss_one (ps_expr (pe_bm PySem.F.plainAttrs_list PySem.F.slot_list_append PySem.F.type_list_append mt_append (pv 2) (pa_cons (pe_tup (pa_cons pe_str (pa_cons (pe_op op_addX (pe_slice sl_X (pe_ix ix_seq (pv 1) pe_int (fun _ _ => rfl)) po_none (po_some (pe_un un_neg pe_int))) (pe_lst (pa_cons (pv 8) pa_nil))) (pa_cons (pe_ix ix_seq (pv 1) pe_int (fun _ _ => rfl)) pa_nil)))) pa_nil))))) (pss_cons (ps_for PassesOwn.never rfl (pi_any (pe_lst (pa_cons (pe_lst (pa_cons pe_str (pa_cons pe_str pa_nil))) (pa_cons (pe_tup (pa_cons pe_str (pa_cons pe_str (pa_cons pe_str pa_nil)))) (pa_cons (pe_tup (pa_cons pe_str pa_nil)) (pa_cons pe_str (pa_cons pe_non (pa_cons (pe_tup pa_nil) pa_nil)))))))) (pg_name (i := 8) sc_law_bent_forms.nd rfl (Or.inl rfl)) (pss_one (ps_expr (pe_bm PySem.F.plainAttrs_list PySem.F.slot_list_append PySem.F.type_list_append mt_append (pv 2) (pa_cons (pe_tup (pa_cons pe_str (pa_cons (pe_ix ix_seq (pv 1) pe_int (fun _ _ => rfl)) (pa_cons (pe_lst (pa_cons (pv 8) pa_nil)) pa_nil)))) pa_nil))))) (pss_cons (ps_set (i := 2) sc_law_bent_forms.nd rfl (Or.inl rfl) (pe_op op_addX (pv 2) (pe_lst (pa_cons (pe_tup (pa_cons pe_str (pa_cons (pe_op op_addX (pe_ix ix_seq (pv 1) pe_int (fun _ _ => rfl)) (pe_slice sl_X (pe_ix ix_seq (pv 1) pe_int (fun _ _ => rfl)) po_none (po_some pe_int))) (pa_cons (pe_ix ix_seq (pv 1) pe_int (fun _ _ => rfl)) pa_nil)))) (pa_cons (pe_tup (pa_cons pe_str (pa_cons (pe_op op_addX (pe_ix ix_seq (pv 1) pe_int (fun _ _ => rfl)) (pe_lst (pa_cons (pe_callTy call_listX (by rfl) T.list_ (by rfl) (pa_cons (pe_ix ix_seq (pe_ix ix_seq (pv 1) pe_int (fun _ _ => rfl)) pe_int (fun _ _ => rfl)) pa_nil)) pa_nil))) (pa_cons (pe_ix ix_seq (pv 1) pe_int (fun _ _ => rfl)) pa_nil)))) (pa_cons (pe_tup (pa_cons pe_str (pa_cons (pe_ix ix_seq (pv 1) pe_int (fun _ _ => rfl)) (pa_cons (pe_callTy call_tuple_of (by rfl) T.tuple_ (by rfl) (pa_cons (pe_ix ix_seq (pv 1) pe_int (fun _ _ => rfl)) pa_nil)) pa_nil)))) pa_nil)))))) (pss_cons (ps_set (i := 2) sc_law_bent_forms.nd rfl (Or.inl rfl) (pe_op op_addX (pv 2) (pe_lst (pa_cons (pe_tup (pa_cons pe_str (pa_cons (pe_ix ix_seq (pv 1) pe_int (fun _ _ => rfl)) (pa_cons (pe_lst (pa_cons (pe_tup (pa_cons pe_str (pa_cons pe_str pa_nil))) (pa_cons (pe_tup (pa_cons pe_str (pa_cons pe_str pa_nil))) pa_nil))) pa_nil)))) (pa_cons (pe_tup (pa_cons pe_str (pa_cons (pe_ix ix_seq (pv 1) pe_int (fun _ _ => rfl)) (pa_cons (pe_lst (pa_cons (pe_tup (pa_cons pe_str (pa_cons pe_str pa_nil))) (pa_cons (pe_tup (pa_cons pe_str (pa_cons pe_str pa_nil))) pa_nil))) pa_nil)))) (pa_cons (pe_tup (pa_cons pe_str (pa_cons (pe_ix ix_seq (pv 1) pe_int (fun _ _ => rfl)) (pa_cons (pe_lst (pa_cons (pe_tup (pa_cons pe_str (pa_cons pe_str pa_nil))) pa_nil)) pa_nil)))) pa_nil)))))) (pss_cons (ps_setLc (i := 9) (own := [("at", 6)]) (g := (gName 6)) (tt := tYes) (te := (tTup (tCons (tOp (rAddX K) (tC (.str "r")) (tOp (rIx K) (tC (.str "abcdefg")) (tVar 6))) (tCons (tC (.str "[")) (tCons (tC (.str "]")) tNil))))) rfl sc_law_bent_forms.nd rfl rfl (sw_true rfl rfl rfl (by decide +kernel)) (pi_range1 (by rfl) T.range_ (pa_cons pe_int pa_nil)) (blkOk_by (N := ["generator", "form", "found", "texts", "turn", "role", "at", "bent", "odd", "many", "wide"]) (sc := defScope s_law_bent_forms) (by decide +kernel)) (fun _ _ _ _ _ => (pg_name (i := 6) sc_law_bent_forms.nd rfl (Or.inl rfl))) (fun _ _ _ _ _ => pts_nil) (fun _ _ _ _ _ => (pe_tup (pa_cons (pe_op op_addX pe_str (pe_ix ix_seq pe_str (pv 6) (fun _ _ => rfl))) (pa_cons pe_str (pa_cons pe_str pa_nil)))))) (pss_cons (ps_setLc (i := 10) (own := [("at", 6)]) (g := (gName 6)) (tt := tYes) (te := (tTup (tCons (tOp (rIx K) (tC (.str "0123456789:;<")) (tVar 6)) (tCons (tC (.str "ab")) tNil)))) rfl sc_law_bent_forms.nd rfl rfl (sw_true rfl rfl rfl (by decide +kernel)) (pi_range1 (by rfl) T.range_ (pa_cons pe_int pa_nil)) (blkOk_by (N := ["generator", "form", "found", "texts", "turn", "role", "at", "bent", "odd", "many", "wide"]) (sc := defScope s_law_bent_forms) (by decide +kernel)) (fun _ _ _ _ _ => (pg_name (i := 6) sc_law_bent_forms.nd rfl (Or.inl rfl))) (fun _ _ _ _ _ => pts_nil) (fun _ _ _ _ _ => (pe_tup (pa_cons (pe_ix ix_seq pe_str (pv 6) (fun _ _ => rfl)) (pa_cons pe_str pa_nil))))) (pss_cons (ps_set (i := 2) sc_law_bent_forms.nd rfl (Or.inl rfl) (pe_op op_addX (pv 2) (pe_lst (pa_cons (pe_tup (pa_cons pe_str (pa_cons (pv 9) (pa_cons (pe_lst pa_nil) pa_nil)))) (pa_cons (pe_tup (pa_cons pe_str (pa_cons (pe_slice sl_X (pv 9) po_none (po_some pe_int)) (pa_cons (pe_lst pa_nil) pa_nil)))) (pa_cons (pe_tup (pa_cons pe_str (pa_cons (pe_slice sl_X (pv 9) (po_some pe_int) (po_some pe_int)) (pa_cons (pe_slice sl_X (pv 10) po_none (po_some pe_int)) pa_nil)))) (pa_cons (pe_tup (pa_cons pe_str (pa_cons (pe_ix ix_seq (pv 1) pe_int (fun _ _ => rfl)) (pa_cons (pv 10) pa_nil)))) pa_nil))))))) (pss_cons (ps_for PassesOwn.never rfl (pi_range1 (by rfl) T.range_ (pa_cons pe_int pa_nil)) (pg_name (i := 4) sc_law_bent_forms.nd rfl (Or.inl rfl)) (pss_one (ps_expr (pe_bm PySem.F.plainAttrs_list PySem.F.slot_list_append PySem.F.type_list_append mt_append (pv 2) (pa_cons (pe_tup (pa_cons pe_str (pa_cons (pe_ix ix_seq (pv 1) pe_int (fun _ _ => rfl)) (pa_cons (pe_lst (pa_cons (pe_def (E := E0) d_law_bent_part hr (by decide) pass0 (pa_cons (pv 0) (pa_cons (pe_tup (pa_cons pe_str (pa_cons pe_str pa_nil))) (pa_cons (pe_lst (pa_cons pe_str (pa_cons pe_str (pa_cons pe_str (pa_cons pe_str (pa_cons pe_non (pa_cons pe_int (pa_cons pe_str (pa_cons (pe_tup (pa_cons pe_str pa_nil)) pa_nil))))))))) pa_nil)))) pa_nil)) pa_nil)))) pa_nil))))) (pss_one (ps_ret (pv 2))))))))))))))), fun vs Q h => ?_⟩
  refine body_G (n := 1) (k := 9) rfl (fun g ds hl ⟨rs, es, e, o, hg⟩ => ?_) vs H Q E h
  subst e
  have r6 := o.r6
  have e12 := o.e12
  have aR : Al false 1 (rs.map rD) := al_roles o.hr
  have rl6 : (rs.map rD).length ≤ 6 := by
    rw [List.length_map]
    exact r6
  have fR : Cl false 2 (.list (rs.map rD)) := Cl.list aR (by omega)
  have fRT : Cl false 2 (.tuple (rs.map rD)) := Cl.tup aR (by omega)
  have fE : Cl false 2 (.list (es.map eD)) := cl_escs o.he e12
  have fET : Cl false 2 (.tuple (es.map eD)) := cl_escsT o.he e12
  obtain ⟨rz, hrz, hlast⟩ : ∃ rz ∈ rs, atI (rs.map rD) (-1) = some (rD rz) := by
    rcases List.eq_nil_or_concat rs with q | ⟨l, a, q⟩
    · rw [q] at o
      exact absurd o.r1 (by decide)
    · rw [List.concat_eq_append] at q
      rw [q, List.map_append]
      exact ⟨a, by simp, atI_last _ _⟩
  have okz := o.hr rz hrz
  have cz1 : Cl false 0 (.str rz.1) := cl_name okz.1
  have cz2 : Cl false 0 (.str rz.2.1) := cl_sh okz.2.1
  have cz3 : Cl false 0 (.str rz.2.2) := cl_sh okz.2.2
  refine s_seq (s_setO (wO_lst ((ea_cons (C := Cl false 4) (k := 7) ?_ (ea_cons (k := 6) ?_ (ea_cons (k := 5) ?_ (ea_cons (k := 4) ?_ (ea_cons (k := 3) ?_ (ea_cons (k := 2) ?_ (ea_cons (k := 1) ?_ (ea_cons (k := 0) ?_ ea_nil)))))))).imp fun f1 ρ1 ⟨a1, l1, e1⟩ => ?_)))
  · exact w_non ⟨Cl.non, rfl⟩
  · refine w_callB (w_cons (w_var rfl (w_nil (c_listT ⟨?_, rfl⟩))))
    walk_at "cl"
  · refine w_slXT (w_var rfl (b_no (b_at (w_int ⟨2, rfl, _, rfl, ?_, rfl⟩))))
    walk_at "cl"
  · refine w_op (w_var rfl (w_tup (w_cons (w_non (w_nil ⟨(show (1 : Nat) ≤ sizeLine by decide), o_addT add_sz ⟨?_, rfl⟩⟩)))))
    walk_at "cl"
  · refine w_op (w_tup (w_cons (w_str (w_nil ⟨(show (1 : Nat) ≤ sizeLine by decide), w_slXT (w_var rfl (b_at (w_int ⟨1, rfl, b_no ⟨_, rfl, o_addT add_sz ⟨?_, rfl⟩⟩⟩)))⟩))))
    walk_at "cl"
  · refine w_op (w_tup (w_cons (w_lst (w_cons (w_str (w_nil ⟨(show (1 : Nat) ≤ sizeLine by decide), w_nil ⟨(show (1 : Nat) ≤ sizeLine by decide), w_slXT (w_var rfl (b_at (w_int ⟨1, rfl, b_no ⟨_, rfl, o_addT add_sz ⟨?_, rfl⟩⟩⟩)))⟩⟩))))))
    walk_at "cl"
  · walk_at "ws"
    refine ⟨?_, rfl⟩
    walk_at "cl"
  · walk_at "ws"
    refine ⟨?_, rfl⟩
    walk_at "cl"
  subst e1
  refine ⟨by rw [l1]; decide, ?_⟩
  refine s_seq (s_set (w_lst ((ea_cons (C := Cl false 1) (k := 14) ?_ (ea_cons (k := 13) ?_ (ea_cons (k := 12) ?_ (ea_cons (k := 11) ?_ (ea_cons (k := 10) ?_ (ea_cons (k := 9) ?_ (ea_cons (k := 8) ?_ (ea_cons (k := 7) ?_ (ea_cons (k := 6) ?_ (ea_cons (k := 5) ?_ (ea_cons (k := 4) ?_ (ea_cons (k := 3) ?_ (ea_cons (k := 2) ?_ (ea_cons (k := 1) ?_ (ea_cons (k := 0) ?_ ea_nil))))))))))))))).imp fun tx ρ1 ⟨at_, lt_, e1⟩ => ?_)))
  · exact w_str ⟨Cl.lit, rfl⟩
  · exact w_op (w_str (w_int (o_repS (n := 12) (by decide) (by decide) (by decide) (by decide) ⟨Cl.lit (by decide +kernel), rfl⟩)))
  · exact w_op (w_str (w_int (o_repS (n := 13) (by decide) (by decide) (by decide) (by decide) ⟨Cl.lit (by decide +kernel), rfl⟩)))
  · exact w_str ⟨Cl.lit, rfl⟩
  · exact w_str ⟨Cl.lit, rfl⟩
  · exact w_str ⟨Cl.lit, rfl⟩
  · exact w_str ⟨Cl.lit, rfl⟩
  · exact w_non ⟨Cl.non, rfl⟩
  · exact w_int ⟨Cl.int, rfl⟩
  · walk_at "ws"
    refine ⟨?_, rfl⟩
    walk_at "cl"
  · exact w_str ⟨Cl.lit, rfl⟩
  · exact w_str ⟨Cl.lit, rfl⟩
  · exact w_str ⟨Cl.lit, rfl⟩
  · exact w_str ⟨Cl.lit, rfl⟩
  · exact w_op (w_op (w_op (w_var rfl (w_int (o_ixT (d := .list (rs.map rD)) rfl (w_neg (w_int ⟨1, rfl, o_ixL hlast (w_int (o_ixT (d := .str rz.1) rfl ⟨cz1.up, rfl⟩))⟩)))))))
  subst e1
  refine ⟨by rw [lt_]; decide, ?_⟩
  refine s_seq (s_for (i_rng1 (w_cons (w_int (w_nil ⟨4, rfl, by decide, by decide, ?_⟩)))))
  refine ⟨fun i ρ => ∃ (xs : List PyData) (g' : Gn) (e4 e5 e6 e7 : Ent), ρ = [.gen g', .dat (fD rs es), .own xs, .dat (.list tx), e4, e5, e6, e7, .no, .no, .no] ∧ e4.ng ∧ e5.ng ∧ e6.ng ∧ e7.ng ∧ Al false 4 xs ∧ xs.length = 8 + i ∧ GS (18 * i) g g', ⟨f1, g, .no, .no, .no, .no, rfl, ng_no, ng_no, ng_no, ng_no, a1, l1, by simpa using hg.refl⟩, ?_, ?_⟩
  rotate_left
  · rintro i d ρ hd ⟨xs, g1, e4, e5, e6, e7, rfl, n4, n5, n6, n7, ax, lx, hs1⟩
    obtain ⟨hi, rfl⟩ := rng0_get' hd
    have hi4 : i < 4 := hi
    have hg1 : GB 40 g1 := hs1.gb (hg.le (by omega))
    refine g_name (s_seq (s_set (w_callG rfl (w_cons (w_op (w_var rfl (w_int (o_ixT (d := .list (rs.map rD)) rfl (w_nil ⟨g1, rfl, one0 (by simp [ng_dat, ng_no, ng_own, n5, n6, n7]), rfl, ⟨_, rfl, .inl ⟨_, rfl⟩, ?_, ?_, hg1.le (by decide)⟩, ?_⟩)))))))))
    · show 0 < (rs.map rD).length
      rw [List.length_map]
      exact o.r1
    · show (rs.map rD).length ≤ 1000
      omega
    rintro d g2 ⟨x, e, hd, hs2⟩
    cases e
    obtain ⟨r, hr, rfl⟩ : ∃ r ∈ rs, d = rD r := by
      rcases hd with ⟨xs, e, hx⟩ | ⟨z, c, e, _⟩
      · cases e
        obtain ⟨r, hr, e⟩ := List.mem_map.mp hx
        exact ⟨r, hr, e.symm⟩
      · cases e
    have okr := o.hr r hr
    obtain ⟨j, z, hj, hz, hmin⟩ := first_idx (l := rs.map rD) (p := fun y => PyData.eqv y (rD r)) ⟨rD r, List.mem_map.mpr ⟨r, hr, rfl⟩, eqv_rD⟩
    have jl : j < rs.length := by
      have := (List.getElem?_eq_some_iff.mp hj).1
      rwa [List.length_map] at this
    refine s_seq (s_set (w_index (w_op (w_var rfl (w_int (o_ixT (d := .list (rs.map rD)) rfl ⟨_, rfl, w_var rfl ⟨j, z, (fR.nz).shaped, ((cl_role okr).nz).shaped, hj, hz, hmin, ?_⟩⟩))))))
    have hg2 : GB 12 g2 := hs2.gb (hg1.le (by decide))
    refine s_seq (s_set (w_callG rfl (w_cons (w_var rfl (w_cons (w_var rfl (w_nil ⟨g2, rfl, one0 (by simp [ng_dat, ng_no, ng_own, n7]), rfl, ⟨[.str r.1, .str r.2.1, .str r.2.2], tx, rfl, Nat.le_of_ble_eq_true rfl, Nat.le_of_ble_eq_true rfl, by omega, by omega, hg2⟩, ?_⟩)))))))
    rintro d g3 ⟨ys, os, k, x, e, rfl, hk, hx, hs3⟩
    obtain ⟨e1, e2⟩ : ys = [.str r.1, .str r.2.1, .str r.2.2] ∧ os = tx := by
      simp only [rD, List.cons.injEq, PyData.tuple.injEq, PyData.list.injEq, and_true] at e
      exact ⟨e.1.symm, e.2.symm⟩
    subst e1
    subst e2
    have cr1 : Cl false 0 (.str r.1) := cl_name okr.1
    have cr2 : Cl false 0 (.str r.2.1) := cl_sh okr.2.1
    have cr3 : Cl false 0 (.str r.2.2) := cl_sh okr.2.2
    have ab : Al false 1 ([.str r.1, .str r.2.1, .str r.2.2] : List PyData) := by walk_at "cl"
    have ab2 := bent_al (k := k) ab at_ hx
    have bl := bent_len (x := x) hk
    generalize [.str r.1, .str r.2.1, .str r.2.2].take k ++ [x] ++ [.str r.1, .str r.2.1, .str r.2.2].drop (k + 1) = bt at *
    have bl3 : bt.length = 3 := bl
    have cb : Cl false 2 (.tuple bt) := Cl.tup ab2 (by omega)
    refine s_app (i := 2) rfl (w_tup (w_cons (w_str (w_cons (w_op (w_op (w_slXL (w_op (w_var rfl (w_int (o_ixT (d := .list (rs.map rD)) rfl (b_no (b_at (w_var rfl ⟨_, rfl, _, rfl, ?_⟩))))))))))))))
    rw [cut_t]
    refine w_lst (w_cons (w_var rfl (w_nil ⟨(show (1 : Nat) ≤ sizeLine by decide), o_addL (by rw [sizeLine_eq, List.length_take]; simp only [List.length_singleton]; omega) ?_⟩)))
    refine w_slXL (w_op (w_var rfl (w_int (o_ixT (d := .list (rs.map rD)) rfl (b_at (w_op (w_var rfl (w_int (o_addI ⟨_, rfl, b_no ⟨_, rfl, ?_⟩⟩)))))))))
    rw [show (j : Int) + 1 = ((j + 1 : Nat) : Int) from rfl, cut_fr]
    have bjl := bent_len (x := PyData.tuple bt) (xs := rs.map rD) (k := j) (by rw [List.length_map]; exact jl)
    refine o_addL (by rw [sizeLine_eq, List.length_append, List.length_take, List.length_drop]; simp only [List.length_singleton]; omega) (w_cons (w_op (w_var rfl (w_int (o_ixT (d := .list (es.map eD)) rfl (w_nil ⟨(show (3 : Nat) ≤ sizeLine by decide), by rw [lx, sizeLine_eq]; omega, _, g3, _, _, _, _, rfl, ng_dat, ng_dat, ng_dat, ng_dat, Al.app ax (Al.cons ?_ Al.nil), ?_, (hs1.trans (hs2.trans hs3)).le (by omega)⟩))))))
    · have : Al false 2 ((rs.map rD).take j ++ [PyData.tuple bt] ++ (rs.map rD).drop (j + 1)) := Al.app (Al.app (Al.take aR.up) (Al.cons cb Al.nil)) (Al.drop aR.up)
      have : Cl false 3 (.list ((rs.map rD).take j ++ [PyData.tuple bt] ++ (rs.map rD).drop (j + 1))) := Cl.list this (by omega)
      exact Cl.tup (Al.cons Cl.lit (Al.cons this (Al.cons fE.up Al.nil))) (Nat.le_of_ble_eq_true rfl)
    · rw [List.length_append, lx]
      rfl
  rintro ρ ⟨xs, g1, e4, e5, e6, e7, rfl, n4, n5, n6, n7, ax, lx, hs1⟩
  have hg1 : GB 48 g1 := (hs1.le (show 18 * (((rngD 0 4).length : Nat) : Int) ≤ 72 by rw [rngD_len]; decide)).gb (hg.le (by decide))
  have hs1' : GS 72 g g1 := hs1.le (by rw [rngD_len]; decide)
  have lx1 : xs.length = 12 := by rw [lx, rngD_len]; rfl
  clear hs1 lx
  refine s_seq (s_set (w_op (w_op (w_var rfl (w_int (o_ixT (d := .list (rs.map rD)) rfl (w_neg (w_int ⟨1, rfl, o_ixL hlast ?_⟩))))))))
  refine s_seq (s_for (i_anyL (w_lst ((ea_cons (C := Cl false 2) (k := 6) ?_ (ea_cons (k := 5) ?_ (ea_cons (k := 4) ?_ (ea_cons (k := 3) ?_ (ea_cons (k := 2) ?_ (ea_cons (k := 1) ?_ (ea_cons (k := 0) ?_ ea_nil))))))).imp fun od ρ1 ⟨a2, l2, e2⟩ => ⟨by rw [l2]; decide, _, rfl, ?_⟩))))
  · refine w_callB (w_cons (w_var rfl (w_nil (c_listT ⟨?_, rfl⟩))))
    walk_at "cl"
  · refine w_op (w_var rfl (w_tup (w_cons (w_str (w_nil ⟨(show (1 : Nat) ≤ sizeLine by decide), o_addT add_sz ⟨?_, rfl⟩⟩)))))
    walk_at "cl"
  · refine w_slXT (w_var rfl (b_no (b_at (w_int ⟨2, rfl, _, rfl, ?_, rfl⟩))))
    walk_at "cl"
  · exact w_str ⟨Cl.lit, rfl⟩
  · exact w_non ⟨Cl.non, rfl⟩
  · refine w_op (w_tup (w_cons (w_str (w_nil ⟨(show (1 : Nat) ≤ sizeLine by decide), w_slXT (w_var rfl (b_at (w_int ⟨1, rfl, b_no ⟨_, rfl, o_addT add_sz ⟨?_, rfl⟩⟩⟩)))⟩))))
    walk_at "cl"
  · refine w_tup (w_nil ⟨(show (0 : Nat) ≤ sizeLine by decide), ?_, rfl⟩)
    walk_at "cl"
  subst e2
  refine ⟨fun i ρ => ∃ (ys : List PyData) (e8 : Ent), ρ = [.gen g1, .dat (fD rs es), .own ys, .dat (.list tx), e4, .dat (rD rz), e6, e7, e8, .no, .no] ∧ e8.ng ∧ Al false 4 ys ∧ ys.length = 12 + i, ⟨xs, .no, rfl, ng_no, ax, lx1⟩, ?_, ?_⟩
  rotate_left
  · rintro i d ρ hd ⟨ys, e8, rfl, n8, ay, ly⟩
    have hi : i < 7 := by
      have := (List.getElem?_eq_some_iff.mp hd).1
      omega
    have cd := a2 d (List.mem_of_getElem? hd)
    have hl : (cutD (rs.map rD) none (some (-1)) ++ [d]).length ≤ 8 := len_app (cut_le rl6) (Nat.le_refl 1) (by decide)
    refine g_name (s_app (i := 2) rfl (w_tup (w_cons (w_str (w_cons (w_op (w_slXL (w_op (w_var rfl (w_int (o_ixT (d := .list (rs.map rD)) rfl (b_no (b_at (w_neg (w_int ⟨1, rfl, _, rfl, _, rfl, ?_⟩)))))))))))))))
    refine w_lst (w_cons (w_var rfl (w_nil ⟨(show (1 : Nat) ≤ sizeLine by decide), ?_⟩)))
    refine o_addL (by rw [← List.length_append]; exact Nat.le_trans hl (by decide)) ?_
    refine w_cons (w_op (w_var rfl (w_int (o_ixT (d := .list (es.map eD)) rfl (w_nil ⟨(show (3 : Nat) ≤ sizeLine by decide), by rw [ly, sizeLine_eq]; omega, _, _, rfl, ng_dat, Al.app ay (Al.cons ?_ Al.nil), ?_⟩)))))
    · have : Al false 2 (cutD (rs.map rD) none (some (-1)) ++ [d]) := Al.app (Al.cut aR.up) (Al.cons cd Al.nil)
      exact Cl.tup (Al.cons Cl.lit (Al.cons (Cl.list this hl) (Al.cons fE.up Al.nil))) (Nat.le_of_ble_eq_true rfl)
    · rw [List.length_append, ly]
      rfl
  rintro ρ ⟨xs2, e8, rfl, n8, ax2, lx2⟩
  rw [l2] at lx2
  clear a2 ax lx1
  refine s_seq (s_for (i_anyL (w_lst ((ea_cons (C := Cl false 1) (k := 5) ?_ (ea_cons (k := 4) ?_ (ea_cons (k := 3) ?_ (ea_cons (k := 2) ?_ (ea_cons (k := 1) ?_ (ea_cons (k := 0) ?_ ea_nil)))))).imp fun od ρ1 ⟨a2, l2, e2⟩ => ⟨by rw [l2]; decide, _, rfl, ?_⟩))))
  · walk_at "ws"
    refine ⟨?_, rfl⟩
    walk_at "cl"
  · walk_at "ws"
    refine ⟨?_, rfl⟩
    walk_at "cl"
  · walk_at "ws"
    refine ⟨?_, rfl⟩
    walk_at "cl"
  · exact w_str ⟨Cl.lit, rfl⟩
  · exact w_non ⟨Cl.non, rfl⟩
  · refine w_tup (w_nil ⟨(show (0 : Nat) ≤ sizeLine by decide), ?_, rfl⟩)
    walk_at "cl"
  subst e2
  refine ⟨fun i ρ => ∃ (ys : List PyData) (e8 : Ent), ρ = [.gen g1, .dat (fD rs es), .own ys, .dat (.list tx), e4, .dat (rD rz), e6, e7, e8, .no, .no] ∧ e8.ng ∧ Al false 4 ys ∧ ys.length = 19 + i, ⟨xs2, e8, rfl, n8, ax2, lx2⟩, ?_, ?_⟩
  rotate_left
  · rintro i d ρ hd ⟨ys, e8, rfl, n8, ay, ly⟩
    have hi : i < 6 := by
      have := (List.getElem?_eq_some_iff.mp hd).1
      omega
    have cd := a2 d (List.mem_of_getElem? hd)
    refine g_name (s_app (i := 2) rfl (w_tup (w_cons (w_str (w_cons (w_op (w_var rfl (w_int (o_ixT (d := .list (rs.map rD)) rfl (w_cons (w_lst (w_cons (w_var rfl (w_nil ⟨(show (1 : Nat) ≤ sizeLine by decide), w_nil ⟨(show (3 : Nat) ≤ sizeLine by decide), by rw [ly, sizeLine_eq]; omega, _, _, rfl, ng_dat, Al.app ay (Al.cons ?_ Al.nil), ?_⟩⟩))))))))))))))
    · exact Cl.tup (Al.cons Cl.lit (Al.cons fR.up (Al.cons (Cl.list (Al.cons cd Al.nil) (Nat.le_of_ble_eq_true rfl)).up Al.nil))) (Nat.le_of_ble_eq_true rfl)
    · rw [List.length_append, ly]
      rfl
  rintro ρ ⟨xs3, e9, rfl, n9, ax3, lx3⟩
  rw [l2] at lx3
  clear a2 ax2 lx2
  obtain ⟨r0, rs', ers⟩ : ∃ r rs', rs = r :: rs' := by
    cases rs with
    | nil => exact absurd o.r1 (by decide)
    | cons r rs => exact ⟨r, rs, rfl⟩
  have h0 : atI (rs.map rD) 0 = some (rD r0) := atI_nat (j := 0) (by rw [ers]; rfl)
  have ok0 := o.hr r0 (by rw [ers]; simp)
  have c01 : Cl false 0 (.str r0.1) := cl_name ok0.1
  have c02 : Cl false 0 (.str r0.2.1) := cl_sh ok0.2.1
  have c03 : Cl false 0 (.str r0.2.2) := cl_sh ok0.2.2
  refine s_lay (i := 2) rfl (s_seq (s_setO (wO_add (w_var rfl (w_lst ((ea_cons (C := Cl false 4) (k := 2) ?_ (ea_cons (k := 1) ?_ (ea_cons (k := 0) ?_ ea_nil))).imp fun f2 ρ1 ⟨a2, l2, e2⟩ => ⟨by rw [l2]; decide, _, _, rfl, rfl, by rw [lx3, l2]; decide, ?_⟩))))))
  · have hl : (rs.map rD ++ cutD (rs.map rD) none (some 1)).length ≤ 7 := by
      rw [show (1 : Int) = ((1 : Nat) : Int) from rfl, cut_t, List.length_append, List.length_take]
      omega
    refine w_tup (w_cons (w_str (w_cons (w_op (w_op (w_var rfl (w_int (o_ixT (d := .list (rs.map rD)) rfl (w_slXL (w_op (w_var rfl (w_int (o_ixT (d := .list (rs.map rD)) rfl (b_no (b_at (w_int ⟨1, rfl, _, rfl, ?_⟩))))))))))))))))
    refine o_addL (by rw [← List.length_append]; exact Nat.le_trans hl (by decide)) ?_
    refine w_cons (w_op (w_var rfl (w_int (o_ixT (d := .list (es.map eD)) rfl (w_nil ⟨(show (3 : Nat) ≤ sizeLine by decide), ?_, rfl⟩)))))
    exact (Cl.tup (Al.cons Cl.lit (Al.cons (Cl.list (Al.app aR (Al.cut aR)) (Nat.le_trans hl (by decide))) (Al.cons fE Al.nil))) (Nat.le_of_ble_eq_true rfl)).up
  · have hl : (rs.map rD ++ [PyData.list [.str r0.1, .str r0.2.1, .str r0.2.2]]).length ≤ 7 := len_app rl6 (Nat.le_refl 1) (by decide)
    refine w_tup (w_cons (w_str (w_cons (w_op (w_op (w_var rfl (w_int (o_ixT (d := .list (rs.map rD)) rfl (w_lst (w_cons (w_callB (w_cons (w_op (w_op (w_var rfl (w_int (o_ixT (d := .list (rs.map rD)) rfl (w_int (o_ixL h0 (w_nil (c_listT (w_nil ⟨(show (1 : Nat) ≤ sizeLine by decide), ?_⟩))))))))))))))))))))))
    refine o_addL (by rw [← List.length_append]; exact Nat.le_trans hl (by decide)) ?_
    refine w_cons (w_op (w_var rfl (w_int (o_ixT (d := .list (es.map eD)) rfl (w_nil ⟨(show (3 : Nat) ≤ sizeLine by decide), ?_, rfl⟩)))))
    have : Cl false 1 (.list [.str r0.1, .str r0.2.1, .str r0.2.2]) := by walk_at "cl"
    exact (Cl.tup (Al.cons Cl.lit (Al.cons (Cl.list (Al.app aR (Al.cons this Al.nil)) (Nat.le_trans hl (by decide))) (Al.cons fE Al.nil))) (Nat.le_of_ble_eq_true rfl)).up
  · walk_at "ws"
    refine ⟨?_, rfl⟩
    walk_at "cl"
  subst e2
  refine s_lay (i := 2) rfl (s_seq (s_setO (wO_add (w_var rfl (w_lst ((ea_cons (C := Cl false 4) (k := 2) ?_ (ea_cons (k := 1) ?_ (ea_cons (k := 0) ?_ ea_nil))).imp fun f3 ρ1 ⟨a3, l3, e3⟩ => ⟨by rw [l3]; decide, _, _, rfl, rfl, by rw [List.length_append, lx3, l2, l3]; decide, ?_⟩))))))
  · walk_at "ws"
    refine ⟨?_, rfl⟩
    walk_at "cl"
  · walk_at "ws"
    refine ⟨?_, rfl⟩
    walk_at "cl"
  · walk_at "ws"
    refine ⟨?_, rfl⟩
    walk_at "cl"
  subst e3
  have ax4 : Al false 4 (xs3 ++ f2 ++ f3) := Al.app (Al.app ax3 a2) a3
  have lx4 : (xs3 ++ f2 ++ f3).length = 31 := by rw [List.length_append, List.length_append, lx3, l2, l3]
  generalize xs3 ++ f2 ++ f3 = xs4 at *
  have sgc : ∀ (z : Str) (i : Nat), i < z.length → (∀ c ∈ z.cps.toList, c < 0x110000) → ∃ c, atI z.cps.toList (i : Int) = some c ∧ c < 0x110000 := fun z i hi hz => by
    have hi' : i < z.cps.toList.length := by
      rw [Array.length_toList]
      exact hi
    exact ⟨z.cps.toList[i], atI_nat (List.getElem?_eq_getElem hi'), hz _ (List.getElem_mem hi')⟩
  refine s_forget 6 (s_seq (s_set (w_lc (by simp) (i_rng1 (w_cons (w_int (w_nil ⟨7, rfl, by decide, by decide, ?_⟩)))))))
  refine ⟨fun i acc ρ => ρ = [.gen g1, .dat (fD rs es), .own xs4, .dat (.list tx), e4, .dat (rD rz), .no, e7, e9, .no, .no] ∧ acc.length = i ∧ Al false 1 acc, ⟨rfl, rfl, Al.nil⟩, ?_, ?_⟩
  rotate_left
  · rintro i d acc ρ hd ⟨rfl, la, aa⟩
    obtain ⟨hi, rfl⟩ := rng0_get' hd
    have hi7 : i < 7 := hi
    obtain ⟨c, hc, cu⟩ := sgc "abcdefg" i hi7 (by decide)
    refine gc_name (w_yes (iteT (w_tup (w_cons (w_op (w_str (w_op (w_str (w_var rfl (o_ixS (by decide) hc (o_addS (by rw [sizeLine_eq]; show 1 + 1 ≤ 16777216; decide) (w_cons (w_str (w_cons (w_str (w_nil ⟨(show (3 : Nat) ≤ sizeLine by decide), by rw [la, sizeLine_eq]; omega, rfl, by rw [List.length_append, la]; rfl, Al.app aa (Al.cons ?_ Al.nil)⟩))))))))))))))))
    have : Cl false 0 (.str ("r" ++ ⟨#[c]⟩)) := Cl.str (fun y hy => by
      rw [Str.cps_append, Array.toList_append] at hy
      rcases List.mem_append.mp hy with q | q
      · have : y = 114 := by
          have e : ("r" : Str).cps.toList = [114] := rfl
          rw [e] at q
          simpa using q
        omega
      · have : y = c := by simpa using q
        omega) (by
      rw [Str.length_append]
      show 1 + 1 ≤ 13
      decide)
    exact Cl.tup (Al.cons this (Al.cons Cl.lit (Al.cons Cl.lit Al.nil))) (Nat.le_of_ble_eq_true rfl)
  rintro many ρ ⟨rfl, lm, am⟩
  rw [rngD_len] at lm
  have lm : many.length = 7 := lm
  refine s_seq (s_set (w_lc (by simp) (i_rng1 (w_cons (w_int (w_nil ⟨13, rfl, by decide, by decide, ?_⟩))))))
  refine ⟨fun i acc ρ => ρ = [.gen g1, .dat (fD rs es), .own xs4, .dat (.list tx), e4, .dat (rD rz), .no, e7, e9, .dat (.list many), .no] ∧ acc.length = i ∧ ∀ x ∈ acc, Wd x, ⟨rfl, rfl, by simp⟩, ?_, ?_⟩
  rotate_left
  · rintro i d acc ρ hd ⟨rfl, la, aa⟩
    obtain ⟨hi, rfl⟩ := rng0_get' hd
    have hi7 : i < 13 := hi
    obtain ⟨c, hc, cu⟩ := sgc "0123456789:;<" i hi7 (by decide)
    refine gc_name (w_yes (iteT (w_tup (w_cons (w_op (w_str (w_var rfl (o_ixS (by decide) hc (w_cons (w_str (w_nil ⟨(show (2 : Nat) ≤ sizeLine by decide), by rw [la, sizeLine_eq]; omega, rfl, by rw [List.length_append, la]; rfl, fun x hx => ?_⟩)))))))))))
    rcases List.mem_append.mp hx with q | q
    · exact aa x q
    · exact ⟨c, cu, List.mem_singleton.mp q⟩
  rintro wide ρ ⟨rfl, lw, aw⟩
  rw [rngD_len] at lw
  have lw : wide.length = 13 := lw
  have cM : Cl false 2 (.list many) := Cl.list am (by omega)
  have cM2 : ∀ lo hi, Cl false 2 (.list (cutD many lo hi)) := fun lo hi => Cl.list (Al.cut am) (cut_le (by omega))
  have cW : Cl false 2 (.list wide) := cl_wide aw (by omega)
  have cW2 : ∀ lo hi, Cl false 2 (.list (cutD wide lo hi)) := fun lo hi => cl_wide (fun x hx => aw x (List.mem_of_mem_drop (List.mem_of_mem_take hx))) (cut_le (by omega))
  have fin4 : ∀ {a b : PyData}, Cl false 2 a → Cl false 2 b → Cl false 4 (.tuple [.str "form", a, b]) := fun ha hb => (Cl.tup (Al.cons Cl.lit (Al.cons ha (Al.cons hb Al.nil))) (Nat.le_of_ble_eq_true rfl)).up
  refine s_lay (i := 2) rfl (s_seq (s_setO (wO_add (w_var rfl (w_lst ((ea_cons (C := Cl false 4) (k := 3) ?_ (ea_cons (k := 2) ?_ (ea_cons (k := 1) ?_ (ea_cons (k := 0) ?_ ea_nil)))).imp fun f5 ρ1 ⟨a5, l5, e5⟩ => ⟨by rw [l5]; decide, _, _, rfl, rfl, by rw [lx4, l5]; decide, ?_⟩))))))
  · refine w_tup (w_cons (w_str (w_cons (w_var rfl (w_cons (w_lst (w_nil ⟨(show (0 : Nat) ≤ sizeLine by decide), w_nil ⟨(show (3 : Nat) ≤ sizeLine by decide), ?_, rfl⟩⟩)))))))
    exact fin4 cM (Cl.list Al.nil (by decide))
  · refine w_tup (w_cons (w_str (w_cons (w_slXL (w_var rfl (b_no (b_at (w_int ⟨6, rfl, _, rfl, w_cons (w_lst (w_nil ⟨(show (0 : Nat) ≤ sizeLine by decide), w_nil ⟨(show (3 : Nat) ≤ sizeLine by decide), ?_, rfl⟩⟩))⟩))))))))
    exact fin4 (cM2 _ _) (Cl.list Al.nil (by decide))
  · refine w_tup (w_cons (w_str (w_cons (w_slXL (w_var rfl (b_at (w_int ⟨1, rfl, b_at (w_int ⟨7, rfl, _, rfl, w_cons (w_slXL (w_var rfl (b_no (b_at (w_int ⟨12, rfl, _, rfl, w_nil ⟨(show (3 : Nat) ≤ sizeLine by decide), ?_, rfl⟩⟩)))))⟩)⟩)))))))
    exact fin4 (cM2 _ _) (cW2 _ _)
  · refine w_tup (w_cons (w_str (w_cons (w_op (w_var rfl (w_int (o_ixT (d := .list (rs.map rD)) rfl (w_cons (w_var rfl (w_nil ⟨(show (3 : Nat) ≤ sizeLine by decide), ?_, rfl⟩))))))))))
    exact fin4 fR cW
  subst e5
  have ax5 : Al false 4 (xs4 ++ f5) := Al.app ax4 a5
  have lx5 : (xs4 ++ f5).length = 35 := by rw [List.length_append, lx4, l5]
  generalize xs4 ++ f5 = xs5 at *
  refine s_seq (s_for (i_rng1 (w_cons (w_int (w_nil ⟨3, rfl, by decide, by decide, ?_⟩)))))
  refine ⟨fun i ρ => ∃ (xs : List PyData) (g' : Gn) (e4 : Ent), ρ = [.gen g', .dat (fD rs es), .own xs, .dat (.list tx), e4, .dat (rD rz), .no, e7, e9, .dat (.list many), .dat (.list wide)] ∧ e4.ng ∧ Al false 4 xs ∧ xs.length = 35 + i ∧ GS (12 * i) g1 g', ⟨xs5, g1, e4, rfl, n4, ax5, lx5, by simpa using hg1.refl⟩, ?_, ?_⟩
  · rintro ρ ⟨xs, g2, e4', rfl, _, ax, lx, hs2⟩
    rw [rngD_len] at lx hs2
    have l3 : Int.toNat 3 = 3 := rfl
    rw [l3] at lx hs2
    exact s_retO rfl ⟨g2, rfl, xs, rfl, by omega, ax, (hs1'.trans hs2).le (by decide)⟩
  · rintro i d ρ hd ⟨xs, g2, e4', rfl, n4', ax, lx, hs2⟩
    obtain ⟨hi, rfl⟩ := rng0_get' hd
    have hi3 : i < 3 := hi
    refine g_name (s_app (i := 2) rfl (w_tup (w_cons (w_str (w_cons (w_op (w_var rfl (w_int (o_ixT (d := .list (rs.map rD)) rfl (w_cons (w_lst (w_cons (w_callG rfl (w_cons (w_tup (w_cons (w_str (w_cons (w_str (w_nil ⟨(show (2 : Nat) ≤ sizeLine by decide), ?_⟩))))))))))))))))))))
    refine w_cons (w_lst ((ea_cons (C := Cl false 1) (k := 7) ?_ (ea_cons (k := 6) ?_ (ea_cons (k := 5) ?_ (ea_cons (k := 4) ?_ (ea_cons (k := 3) ?_ (ea_cons (k := 2) ?_ (ea_cons (k := 1) ?_ (ea_cons (k := 0) ?_ ea_nil)))))))).imp fun os ρ1 ⟨ao, lo, eo⟩ => ⟨by rw [lo]; decide, w_nil ?_⟩))
    · exact w_str ⟨Cl.lit, rfl⟩
    · exact w_str ⟨Cl.lit, rfl⟩
    · exact w_str ⟨Cl.lit, rfl⟩
    · exact w_str ⟨Cl.lit, rfl⟩
    · exact w_non ⟨Cl.non, rfl⟩
    · exact w_int ⟨Cl.int, rfl⟩
    · exact w_str ⟨Cl.lit, rfl⟩
    · walk_at "ws"
      refine ⟨?_, rfl⟩
      walk_at "cl"
    subst eo
    refine ⟨g2, rfl, one0 (by simp [ng_dat, ng_no, ng_own, n7, n9]), rfl, ⟨[.str "a", .str "ab"], os, rfl, by decide, by decide, by omega, by omega, hs2.gb (hg1.le (by omega))⟩, ?_⟩
    rintro d g3 ⟨ys, os', k, x, e, rfl, hk, hx, hs3⟩
    obtain ⟨e1, e2⟩ : ys = [.str "a", .str "ab"] ∧ os' = os := by
      simp only [List.cons.injEq, PyData.tuple.injEq, PyData.list.injEq, and_true] at e
      exact ⟨e.1.symm, e.2.symm⟩
    subst e1
    subst e2
    have ab : Al false 1 ([.str "a", .str "ab"] : List PyData) := by walk_at "cl"
    have ab2 := bent_al (k := k) ab ao hx
    have bl := bent_len (x := x) hk
    generalize ([.str "a", .str "ab"] : List PyData).take k ++ [x] ++ ([.str "a", .str "ab"] : List PyData).drop (k + 1) = bt at *
    have bl3 : bt.length = 2 := bl
    have cb : Cl false 2 (.tuple bt) := Cl.tup ab2 (by omega)
    refine w_nil ⟨(show (1 : Nat) ≤ sizeLine by decide), w_nil ⟨(show (3 : Nat) ≤ sizeLine by decide), by rw [lx, sizeLine_eq]; omega, _, g3, _, rfl, ng_dat, Al.app ax (Al.cons ?_ Al.nil), ?_, (hs2.trans hs3).le (by omega)⟩⟩
    · exact Cl.tup (Al.cons Cl.lit (Al.cons fR.up (Al.cons (Cl.list (Al.cons cb Al.nil) (Nat.le_of_ble_eq_true rfl)) Al.nil))) (Nat.le_of_ble_eq_true rfl)
    · rw [List.length_append, lx]
      rfl
end
end K81


namespace K81
open PySem PySem.Spec PyProof.Rows L2 DL ErX ClX
open Evl (Ex)
local macro_rules | `(tactic| walk_at "sz") => `(tactic| first | assumption | (rw [sizeLine_eq]; simp only [List.length_cons, List.length_nil, List.length_append, List.length_map, List.length_replicate, List.length_range]; omega) | (rw [sizeLine_eq]; simp; done) | (rw [sizeLine_eq]; simp; omega) | omega)
local macro_rules | `(tactic| walk_at "sh") => `(tactic| first | assumption | exact shaped_int _ | rfl | (exact ty_shaped (by assumption)) | (decide +kernel))
local macro_rules | `(tactic| walk_at "w") => `(tactic| first
  | ((with_reducible refine' w_var ?hv ?_); (case hv => rfl))
  | (with_reducible refine s_seq ?_)
  | (with_reducible refine s_set ?_)
  | (with_reducible refine s_ret ?_)
  | (with_reducible refine s_if ?_)
  | (with_reducible refine s_next ?_)
  | (with_reducible refine x_seq ?_)
  | (with_reducible refine x_if ?_)
  | ((with_reducible refine' w_isi ?_ ?_); decide)
  | (with_reducible refine w_callB ?_)
  | (with_reducible refine w_op ?_)
  | (with_reducible refine w_cons ?_)
  | (with_reducible refine w_nil ?_)
  | (with_reducible refine w_int ?_)
  | (with_reducible refine w_str ?_)
  | (with_reducible refine w_bl ?_)
  | (with_reducible refine w_non ?_)
  | (with_reducible refine w_test ?_)
  | (with_reducible refine w_tB ?_)
  | (with_reducible refine w_and ?_)
  | (with_reducible refine w_or ?_)
  | (with_reducible refine w_not ?_)
  | (with_reducible refine w_andV ?_)
  | (with_reducible refine w_orV ?_)
  | (with_reducible refine w_notV ?_)
  | (with_reducible refine w_if ?_)
  | ((with_reducible refine' w_chain ?hh ?hv); (case hv => rfl))
  | (with_reducible refine w_lst ?_)
  | (with_reducible refine w_tup ?_)
  | (with_reducible refine w_dnew ?_)
  | (with_reducible refine o_addI ?_)
  | (with_reducible refine o_subI ?_)
  | (with_reducible refine o_ltI ?_)
  | (with_reducible refine o_leI ?_)
  | (with_reducible refine o_gtI ?_)
  | (with_reducible refine o_geI ?_)
  | (with_reducible refine o_ltS ?_)
  | (with_reducible refine o_leS ?_)
  | (with_reducible refine o_gtS ?_)
  | (with_reducible refine o_geS ?_)
  | (with_reducible refine o_eqS ?_)
  | (with_reducible refine o_neS ?_)
  | (with_reducible refine o_isN ?_)
  | (with_reducible refine o_notN ?_)
  | (with_reducible refine o_isB ?_)
  | (with_reducible refine c_lenL ?_)
  | (with_reducible refine c_lenT ?_)
  | (with_reducible refine c_int ?_)
  | (with_reducible refine c_intB ?_)
  | (with_reducible refine c_ord ?_)
  | (with_reducible refine c_tupL ?_)
  | (with_reducible refine c_listL ?_)
  | (with_reducible refine c_listT ?_)
  | ((with_reducible refine o_eq ?_ ?_ ?_); (walk_at "sh"); (walk_at "sh"))
  | ((with_reducible refine o_ne ?_ ?_ ?_); (walk_at "sh"); (walk_at "sh"))
  | ((with_reducible refine' o_ixL ?hv ?_); (case hv => rfl))
  | ((with_reducible refine' o_ixT ?hv ?_); (case hv => rfl))
  | ((with_reducible refine o_modI ?_ ?_); (walk_at "sz"))
  | ((with_reducible refine o_addL ?_ ?_); (walk_at "sz"))
  | ((with_reducible refine o_addS ?_ ?_); (walk_at "sz"))
  | ((with_reducible refine o_addT ?_ ?_); (walk_at "sz"))
  | ((with_reducible refine c_lenS ?_ ?_); (walk_at "sz"))
  | refine iteT ?_
  | refine iteF ?_
  | refine And.intro (show _ ≤ sizeLine by walk_at "sz") ?_
  | refine ⟨_, rfl, ?_⟩
  | (refine' o_ixT ?hv ?_; (case hv => rfl))
  | (refine' o_ixL ?hv ?_; (case hv => rfl))
  | refine w_call ?_
  | refine w_callR ?_)
local macro_rules | `(tactic| walk_at "ws") => `(tactic| repeat walk_at "w")

section
variable {P : Program} {w : World} {K : PySem.W.Frag} {mg : Str → Option Value} {base : Heap} {CF CX CT SE CInvalidBook CInvalidForm CInvalidList CInvalidNumber CInvalidPlace CInvalidRole CInvalidTalk CInvalidText : Addr}
def sp_law_error (P : Program) (w : World) (K : PySem.W.Frag) (mg : Str → Option Value) (base : Heap) (SE : Addr) : Sp := fun vs H Q _ => ∃ (f C : Addr) (d : PyData) (G : Hp) (tl : XK → Hp → VK → Prop), vs = [.ref f] ∧ Ex G H ∧ CloOk P w K mg base 8 H f tl ∧ Rs C d G H tl ∧ PySem.W.exmOne K (.ref C) (.ref SE) = some true ∧
  ∀ x G' H', Ex G G' → Ex H H' → Ex G' H' → Held C d G' H' x → Q x H'
abbrev s_law_error : Stmt := top 37
theorem sc_law_error : FnScope ["call", "caught", "error"] ["call"] (defScope s_law_error) := ⟨rfl, rfl, rfl, by decide +kernel, rfl, by decide +kernel, by decide +kernel⟩
theorem d_law_error (hse : mg "SaidError" = some (.ref SE)) (F : FunAt K mg "_law_error" s_law_error) : Df P w K mg base CX0 9 "_law_error" ["call"] [] (sp_law_error P w K mg base SE) := by
  refine df_of F sc_law_error (fun vs H Q E ⟨f, C, d, G, tl, e, _⟩ => by rw [e]; rfl) (fun _ _ _ _ _ _ _ us hl => match us, hl with | [_], _ => rfl) fun f cdv A outer s H E hr => ?_
  refine ⟨_, pss_cons (ps_set (i := 1) sc_law_error.nd rfl (Or.inl rfl) pe_non) (pss_cons (ps_try_keep (i := 2) rfl rfl rfl sc_law_error.nd rfl rfl ⟨rfl, by decide, .inl hse⟩ takes0 (tb := fun W => tDrop (fun σ H Q => ∃ (f : Addr) (tl : XK → Hp → VK → Prop), σ[0]? = some (some (.ref f)) ∧ CloOk P w K mg base 8 H f tl ∧ tl (fun cls d H' => W cls d σ H') H Q)) (fun W pn xe tk _ => pss_one (ps_expr (pe_cloS (i := 0) tk hr rfl (Or.inl rfl)))) (fun a oe cls d pn _ _ => pss_one (ps_set (i := 1) sc_law_error.nd rfl (Or.inl rfl) (pv 2)))) (pss_one (ps_ret (pv 1)))), fun vs Q h => ?_⟩
  obtain ⟨f, C, d, G, tl, rfl, ge, hc, hR, hx, hq⟩ := h
  refine ⟨f, tl, rfl, hc, hR H _ _ (Ex.refl H) fun G' H' v e g1 g2 g3 dv he => ⟨true, hx, fun _ a ha => ?_, fun z => nomatch z⟩⟩
  have nea : e ≠ a := fun z => by
    rw [z, upd_same] at ha
    cases ha
  have x1 : Ex H' (upd (upd H' e (.xd [("value", v)])) a (heldO a (.ref C) (some e))) := (ex_upd he).trans (ex_upd ha)
  refine ⟨.ref a, rfl, ?_⟩
  refine ⟨.ref a, rfl, hq _ G' _ g1 (g2.trans x1) (g3.trans x1) ⟨a, e, v, rfl, upd_same, ?_, dv⟩⟩
  rw [upd_ne nea]
  exact upd_same
/-- the eight kinds -/
def kName (n : Nat) : Str := ["InvalidBook", "InvalidForm", "InvalidList", "InvalidNumber", "InvalidPlace", "InvalidRole", "InvalidTalk", "InvalidText"].getD n ""
structure Kg (mg : Str → Option Value) (CInvalidBook CInvalidForm CInvalidList CInvalidNumber CInvalidPlace CInvalidRole CInvalidTalk CInvalidText : Addr) : Prop where
  gInvalidBook : mg "InvalidBook" = some (.ref CInvalidBook)
  gInvalidForm : mg "InvalidForm" = some (.ref CInvalidForm)
  gInvalidList : mg "InvalidList" = some (.ref CInvalidList)
  gInvalidNumber : mg "InvalidNumber" = some (.ref CInvalidNumber)
  gInvalidPlace : mg "InvalidPlace" = some (.ref CInvalidPlace)
  gInvalidRole : mg "InvalidRole" = some (.ref CInvalidRole)
  gInvalidTalk : mg "InvalidTalk" = some (.ref CInvalidTalk)
  gInvalidText : mg "InvalidText" = some (.ref CInvalidText)
/-- what an error's class is -/
structure Ke (K : PySem.W.Frag) (CInvalidBook CInvalidForm CInvalidList CInvalidNumber CInvalidPlace CInvalidRole CInvalidTalk CInvalidText SE C : Addr) (n : Nat) : Prop where
  lt : n < 8
  xc : XfC K C
  ec : ExcC K C
  vn : PySem.W.findIn K (.ref C) "value" = some none
  ts : PySem.W.exmOne K (.ref C) (.ref SE) = some true
  k0 : PySem.W.kitOne K (.ref C) (.ref CInvalidBook) = some (decide (n = 0))
  k1 : PySem.W.kitOne K (.ref C) (.ref CInvalidForm) = some (decide (n = 1))
  k2 : PySem.W.kitOne K (.ref C) (.ref CInvalidList) = some (decide (n = 2))
  k3 : PySem.W.kitOne K (.ref C) (.ref CInvalidNumber) = some (decide (n = 3))
  k4 : PySem.W.kitOne K (.ref C) (.ref CInvalidPlace) = some (decide (n = 4))
  k5 : PySem.W.kitOne K (.ref C) (.ref CInvalidRole) = some (decide (n = 5))
  k6 : PySem.W.kitOne K (.ref C) (.ref CInvalidTalk) = some (decide (n = 6))
  k7 : PySem.W.kitOne K (.ref C) (.ref CInvalidText) = some (decide (n = 7))
def sp_law_kinds (K : PySem.W.Frag) (CInvalidBook CInvalidForm CInvalidList CInvalidNumber CInvalidPlace CInvalidRole CInvalidTalk CInvalidText SE : Addr) : Sp := fun vs H Q _ => ∃ (C : Addr) (d : PyData) (G : Hp) (x : V) (n : Nat), vs = [x] ∧ Ex G H ∧ Held C d G H x ∧ Ke K CInvalidBook CInvalidForm CInvalidList CInvalidNumber CInvalidPlace CInvalidRole CInvalidTalk CInvalidText SE C n ∧ ∀ H', Ex H H' → Q (.str (kName n)) H'
def kRow (n : Nat) : List (Str × Bool) := [("InvalidBook", decide (n = 0)), ("InvalidForm", decide (n = 1)), ("InvalidList", decide (n = 2)), ("InvalidNumber", decide (n = 3)), ("InvalidPlace", decide (n = 4)), ("InvalidRole", decide (n = 5)), ("InvalidTalk", decide (n = 6)), ("InvalidText", decide (n = 7))]
theorem kRow_fil {n : Nat} (h : n < 8) : (kRow n).filter (fun a => a.2) = [(kName n, true)] ∧ Txt.join " " [kName n] = kName n ∧ (kName n).length ≤ 13 := by
  match n, h with
  | 0, _ => exact ⟨rfl, rfl, by decide⟩
  | 1, _ => exact ⟨rfl, rfl, by decide⟩
  | 2, _ => exact ⟨rfl, rfl, by decide⟩
  | 3, _ => exact ⟨rfl, rfl, by decide⟩
  | 4, _ => exact ⟨rfl, rfl, by decide⟩
  | 5, _ => exact ⟨rfl, rfl, by decide⟩
  | 6, _ => exact ⟨rfl, rfl, by decide⟩
  | 7, _ => exact ⟨rfl, rfl, by decide⟩
abbrev s_law_kinds : Stmt := top 47
theorem sc_law_kinds : FnScope ["caught", "kinds", "word", "held"] ["caught"] (defScope s_law_kinds) := ⟨rfl, rfl, rfl, by decide +kernel, rfl, by decide +kernel, by decide +kernel⟩
theorem d_law_kinds (T : Bl mg) (F : FunAt K mg "_law_kinds" s_law_kinds) (N : Kg mg CInvalidBook CInvalidForm CInvalidList CInvalidNumber CInvalidPlace CInvalidRole CInvalidTalk CInvalidText)  : Df P w K mg base CX0 1 "_law_kinds" ["caught"] [] (sp_law_kinds K CInvalidBook CInvalidForm CInvalidList CInvalidNumber CInvalidPlace CInvalidRole CInvalidTalk CInvalidText SE) := by
  refine df_of F sc_law_kinds (fun vs H Q E ⟨C, d, G, x, n, e, _⟩ => by rw [e]; rfl) (fun _ _ _ _ _ _ _ us hl => match us, hl with | [_], _ => rfl) fun f cdv A outer s H E hr => ?_
  refine ⟨_, (pss_cons (ps_set (i := 1) sc_law_kinds.nd rfl (Or.inl rfl) (pe_lst (pa_cons (pe_tup (pa_cons pe_str (pa_cons (pe_callB call_isH (by rfl) T.isinstance_ (by rfl) (pa_cons (pv 0) (pa_cons (pe_glob (v := .ref CInvalidBook) (by rfl) N.gInvalidBook rfl) pa_nil))) pa_nil))) (pa_cons (pe_tup (pa_cons pe_str (pa_cons (pe_callB call_isH (by rfl) T.isinstance_ (by rfl) (pa_cons (pv 0) (pa_cons (pe_glob (v := .ref CInvalidForm) (by rfl) N.gInvalidForm rfl) pa_nil))) pa_nil))) (pa_cons (pe_tup (pa_cons pe_str (pa_cons (pe_callB call_isH (by rfl) T.isinstance_ (by rfl) (pa_cons (pv 0) (pa_cons (pe_glob (v := .ref CInvalidList) (by rfl) N.gInvalidList rfl) pa_nil))) pa_nil))) pa_nil))))) (pss_cons (ps_set (i := 1) sc_law_kinds.nd rfl (Or.inl rfl) (pe_op op_addX (pv 1) (pe_lst (pa_cons (pe_tup (pa_cons pe_str (pa_cons (pe_callB call_isH (by rfl) T.isinstance_ (by rfl) (pa_cons (pv 0) (pa_cons (pe_glob (v := .ref CInvalidNumber) (by rfl) N.gInvalidNumber rfl) pa_nil))) pa_nil))) (pa_cons (pe_tup (pa_cons pe_str (pa_cons (pe_callB call_isH (by rfl) T.isinstance_ (by rfl) (pa_cons (pv 0) (pa_cons (pe_glob (v := .ref CInvalidPlace) (by rfl) N.gInvalidPlace rfl) pa_nil))) pa_nil))) pa_nil))))) (pss_cons (ps_set (i := 1) sc_law_kinds.nd rfl (Or.inl rfl) (pe_op op_addX (pv 1) (pe_lst (pa_cons (pe_tup (pa_cons pe_str (pa_cons (pe_callB call_isH (by rfl) T.isinstance_ (by rfl) (pa_cons (pv 0) (pa_cons (pe_glob (v := .ref CInvalidRole) (by rfl) N.gInvalidRole rfl) pa_nil))) pa_nil))) (pa_cons (pe_tup (pa_cons pe_str (pa_cons (pe_callB call_isH (by rfl) T.isinstance_ (by rfl) (pa_cons (pv 0) (pa_cons (pe_glob (v := .ref CInvalidTalk) (by rfl) N.gInvalidTalk rfl) pa_nil))) pa_nil))) (pa_cons (pe_tup (pa_cons pe_str (pa_cons (pe_callB call_isH (by rfl) T.isinstance_ (by rfl) (pa_cons (pv 0) (pa_cons (pe_glob (v := .ref CInvalidText) (by rfl) N.gInvalidText rfl) pa_nil))) pa_nil))) pa_nil)))))) (pss_one (ps_ret (pe_join pe_str (pe_lc (own := [("word", 2), ("held", 3)]) (g := (gTup K 2 (gCons (gName 2) (gCons (gName 3) gNil)))) (tt := (tB (tVar 3))) (te := (tVar 2)) rfl sc_law_kinds.nd (pi_any (pv 1)) (blkOk_by (N := ["caught", "kinds", "word", "held"]) (sc := defScope s_law_kinds) (by decide +kernel)) (fun _ _ _ _ _ => (pg_tup rfl (pgs_cons (pg_name (i := 2) sc_law_kinds.nd rfl (Or.inl rfl)) (pgs_cons (pg_name (i := 3) sc_law_kinds.nd rfl (Or.inl rfl)) pgs_nil)))) (fun _ _ _ _ _ => (pts_one (pt_val (pv 3)))) (fun _ _ _ _ _ => (pv 2))))))))), fun vs Q h => ?_⟩
  obtain ⟨C, d, G, x, n, rfl, ge, hx, ke, hq⟩ := h
  refine (show wS _ [.raw (heldF C d G), .no, .no, .no] ⟨fun _ => False, fun d' _ => d' = .str (kName n), fun _ => False, fun _ => False⟩ from ?_) ⟨none, G, H⟩ G H _ ?_ _ ?_
  · refine (s_seq (s_set (w_lst (w_cons (w_tup (w_cons (w_str (w_cons (w_isHeld rfl ke.ec (.own _) ke.k0 (w_nil ⟨(show (2 : Nat) ≤ sizeLine by decide), ?_⟩))))))))))
    refine (w_cons (w_tup (w_cons (w_str (w_cons (w_isHeld rfl ke.ec (.own _) ke.k1 (w_nil ⟨(show (2 : Nat) ≤ sizeLine by decide), ?_⟩)))))))
    refine (w_cons (w_tup (w_cons (w_str (w_cons (w_isHeld rfl ke.ec (.own _) ke.k2 (w_nil ⟨(show (2 : Nat) ≤ sizeLine by decide), w_nil ⟨(show (3 : Nat) ≤ sizeLine by decide), ?_⟩⟩)))))))
    refine (s_seq (s_set (w_op (w_var rfl (w_lst (w_cons (w_tup (w_cons (w_str (w_cons (w_isHeld rfl ke.ec (.own _) ke.k3 (w_nil ⟨(show (2 : Nat) ≤ sizeLine by decide), ?_⟩))))))))))))
    refine (w_cons (w_tup (w_cons (w_str (w_cons (w_isHeld rfl ke.ec (.own _) ke.k4 (w_nil ⟨(show (2 : Nat) ≤ sizeLine by decide), w_nil ⟨(show (2 : Nat) ≤ sizeLine by decide), o_addL add_sz ?_⟩⟩)))))))
    refine (s_seq (s_set (w_op (w_var rfl (w_lst (w_cons (w_tup (w_cons (w_str (w_cons (w_isHeld rfl ke.ec (.own _) ke.k5 (w_nil ⟨(show (2 : Nat) ≤ sizeLine by decide), ?_⟩))))))))))))
    refine (w_cons (w_tup (w_cons (w_str (w_cons (w_isHeld rfl ke.ec (.own _) ke.k6 (w_nil ⟨(show (2 : Nat) ≤ sizeLine by decide), ?_⟩)))))))
    refine (w_cons (w_tup (w_cons (w_str (w_cons (w_isHeld rfl ke.ec (.own _) ke.k7 (w_nil ⟨(show (2 : Nat) ≤ sizeLine by decide), w_nil ⟨(show (3 : Nat) ≤ sizeLine by decide), o_addL add_sz ?_⟩⟩)))))))
    obtain ⟨r1, r2, r3⟩ := kRow_fil ke.lt
    refine s_ret (w_join (w_str ⟨rfl, w_mf2 (kRow n) (fun a => .str a.1) (fun a => .bool a.2) (fun a => a.2) (fun a => .str a.1) (by decide) rfl rfl (show (8 : Nat) ≤ sizeLine by decide) (i_anyL (w_var rfl ⟨_, rfl, rfl, rfl⟩)) (fun a ha => w_tB (w_var rfl ⟨_, rfl, rfl, rfl⟩)) (fun a ha _ => w_var rfl ⟨rfl, rfl⟩) ?_⟩))
    rw [r1]
    refine ⟨[kName n], rfl, ?_, ?_⟩
    · have e1 : (" " : Str).length = 1 := rfl
      simp only [List.map_cons, List.map_nil, List.sum_cons, List.sum_nil, List.length_cons, List.length_nil, e1]
      omega
    · rw [r2]
  · refine ⟨Ex.refl _, ge, fun a o h h' => (nomatch (show some o = none from h.symm.trans h')), fun _ _ h _ => h, fun a z => (nomatch z), rfl, fun i e s hi hs => ?_, fun i j di dj a hi => ?_⟩
    · match i, hi, hs with
      | 0, rfl, rfl => exact ⟨rfl, ge, x, rfl, hx⟩
      | 1, rfl, _ => trivial
      | 2, rfl, _ => trivial
      | 3, rfl, _ => trivial
    · match i, hi with
      | 0, h => cases h
      | 1, h => cases h
      | 2, h => cases h
      | 3, h => cases h
  · refine ⟨fun _ _ _ _ _ _ z => z.elim, fun v' G2 H2 σ2 ρ2 d2 k2 x2 e2 dv2 => ?_, fun _ _ _ _ _ _ z => z.elim, fun _ _ _ _ _ _ z => z.elim⟩
    subst e2
    rw [dv2.str']
    exact hq _ fun a o h => k2.kp a o h (by simp)
abbrev s_law_refused : Stmt := top 40
theorem sc_law_refused : FnScope ["call", "caught"] ["call"] (defScope s_law_refused) := ⟨rfl, rfl, rfl, by decide +kernel, rfl, by decide +kernel, by decide +kernel⟩
def sp_law_refused (P : Program) (w : World) (K : PySem.W.Frag) (mg : Str → Option Value) (base : Heap) (CInvalidBook CInvalidForm CInvalidList CInvalidNumber CInvalidPlace CInvalidRole CInvalidTalk CInvalidText SE : Addr) : Sp := fun vs H Q _ => ∃ (f C : Addr) (d : PyData) (G : Hp) (tl : XK → Hp → VK → Prop) (n : Nat), vs = [.ref f] ∧ Ex G H ∧ CloOk P w K mg base 8 H f tl ∧ Rs C d G H tl ∧ Ke K CInvalidBook CInvalidForm CInvalidList CInvalidNumber CInvalidPlace CInvalidRole CInvalidTalk CInvalidText SE C n ∧
  ∀ x G' H', Ex G G' → Ex H H' → Ex G' H' → Dd G' x (.list [.str (kName n), d]) → Q x H'
theorem d_law_refused (F : FunAt K mg "_law_refused" s_law_refused) (d_law_error : Df P w K mg base CX0 9 "_law_error" ["call"] [] (sp_law_error P w K mg base SE)) (d_law_kinds : Df P w K mg base CX0 1 "_law_kinds" ["caught"] [] (sp_law_kinds K CInvalidBook CInvalidForm CInvalidList CInvalidNumber CInvalidPlace CInvalidRole CInvalidTalk CInvalidText SE)) :
    Df P w K mg base CX0 10 "_law_refused" ["call"] [] (sp_law_refused P w K mg base CInvalidBook CInvalidForm CInvalidList CInvalidNumber CInvalidPlace CInvalidRole CInvalidTalk CInvalidText SE) := by
  refine df_of F sc_law_refused (fun vs H Q E ⟨f, C, d, G, tl, n, e, _⟩ => by rw [e]; rfl) (fun _ _ _ _ _ _ _ us hl => match us, hl with | [_], _ => rfl) fun f cdv A outer s H E hr => ?_
  refine ⟨_, (pss_cons (ps_set (i := 1) sc_law_refused.nd rfl (Or.inl rfl) (pe_def (E := E0) d_law_error hr (by decide) pass0 (pa_cons (pv 0) pa_nil))) (pss_one (ps_ret (pe_ifExp (pt_cmpR op_isN (pv 1) pe_non (nomark _)) pe_non (pe_lst (pa_cons (pe_def (E := E0) d_law_kinds hr (by decide) pass0 (pa_cons (pv 1) pa_nil)) (pa_cons (pe_hfld (pv 1)) pa_nil))))))), fun vs Q h => ?_⟩
  obtain ⟨f, C, d, G, tl, n, rfl, ge, hc, hR, ke, hq⟩ := h
  refine ⟨.ref f, rfl, f, C, d, G, tl, rfl, ge, hc, hR, ke.ts, fun x G' H' g1 g2 g3 hx => ?_⟩
  obtain ⟨a, e, v, rfl, ha, he, dv⟩ := hx
  refine ⟨.ref a, rfl, rfl, _, rfl, ?_⟩
  rw [decide_eq_false (by intro z; cases z)]
  refine iteF ⟨.ref a, rfl, C, d, G', .ref a, n, rfl, g3, ⟨a, e, v, rfl, ha, he, dv⟩, ke, fun H2 x2 => ?_⟩
  refine ⟨.ref a, rfl, a, C, e, [("value", v)], v, rfl, x2 _ _ ha, ke.xc, ke.vn, x2 _ _ he, rfl, (show (2 : Nat) ≤ sizeLine by decide), fun p hp => ?_⟩
  have gp : G' p = none := by
    cases q : G' p with
    | none => rfl
    | some o =>
      rw [x2 _ _ (g3 _ _ q)] at hp
      cases hp
  have xg : Ex G' (upd G' p (.lst [.str (kName n), v])) := ex_upd gp
  refine hq _ (upd G' p (.lst [.str (kName n), v])) _ (g1.trans xg) ((g2.trans x2).trans (ex_upd hp)) (fun b o h => ?_) (.lst upd_same (.cons (.str _) (.cons (dv.mono xg) .nil)))
  by_cases z : b = p
  · subst z
    rw [upd_same] at h ⊢
    exact h
  · rw [upd_ne z] at h ⊢
    exact x2 _ _ (g3 _ _ h)
end
end K81


namespace K81
open PySem PySem.Spec PyProof.Rows L2 DL ErX ClX LamX
open Evl (Ex)
local macro_rules | `(tactic| walk_at "sz") => `(tactic| first | assumption | (rw [sizeLine_eq]; simp only [List.length_cons, List.length_nil, List.length_append, List.length_map, List.length_replicate, List.length_range]; omega) | (rw [sizeLine_eq]; simp; done) | (rw [sizeLine_eq]; simp; omega) | omega)
local macro_rules | `(tactic| walk_at "sh") => `(tactic| first | assumption | exact shaped_int _ | rfl | (exact ty_shaped (by assumption)) | (decide +kernel))
local macro_rules | `(tactic| walk_at "w") => `(tactic| first
  | ((with_reducible refine' w_var ?hv ?_); (case hv => rfl))
  | (with_reducible refine s_seq ?_)
  | (with_reducible refine s_set ?_)
  | (with_reducible refine s_ret ?_)
  | (with_reducible refine s_if ?_)
  | (with_reducible refine s_next ?_)
  | (with_reducible refine x_seq ?_)
  | (with_reducible refine x_if ?_)
  | ((with_reducible refine' w_isi ?_ ?_); decide)
  | (with_reducible refine w_callB ?_)
  | (with_reducible refine w_op ?_)
  | (with_reducible refine w_cons ?_)
  | (with_reducible refine w_nil ?_)
  | (with_reducible refine w_int ?_)
  | (with_reducible refine w_str ?_)
  | (with_reducible refine w_bl ?_)
  | (with_reducible refine w_non ?_)
  | (with_reducible refine w_test ?_)
  | (with_reducible refine w_tB ?_)
  | (with_reducible refine w_and ?_)
  | (with_reducible refine w_or ?_)
  | (with_reducible refine w_not ?_)
  | (with_reducible refine w_andV ?_)
  | (with_reducible refine w_orV ?_)
  | (with_reducible refine w_notV ?_)
  | (with_reducible refine w_if ?_)
  | ((with_reducible refine' w_chain ?hh ?hv); (case hv => rfl))
  | (with_reducible refine w_lst ?_)
  | (with_reducible refine w_tup ?_)
  | (with_reducible refine w_dnew ?_)
  | (with_reducible refine o_addI ?_)
  | (with_reducible refine o_subI ?_)
  | (with_reducible refine o_ltI ?_)
  | (with_reducible refine o_leI ?_)
  | (with_reducible refine o_gtI ?_)
  | (with_reducible refine o_geI ?_)
  | (with_reducible refine o_ltS ?_)
  | (with_reducible refine o_leS ?_)
  | (with_reducible refine o_gtS ?_)
  | (with_reducible refine o_geS ?_)
  | (with_reducible refine o_eqS ?_)
  | (with_reducible refine o_neS ?_)
  | (with_reducible refine o_isN ?_)
  | (with_reducible refine o_notN ?_)
  | (with_reducible refine o_isB ?_)
  | (with_reducible refine c_lenL ?_)
  | (with_reducible refine c_lenT ?_)
  | (with_reducible refine c_int ?_)
  | (with_reducible refine c_intB ?_)
  | (with_reducible refine c_ord ?_)
  | (with_reducible refine c_tupL ?_)
  | (with_reducible refine c_listL ?_)
  | (with_reducible refine c_listT ?_)
  | ((with_reducible refine o_eq ?_ ?_ ?_); (walk_at "sh"); (walk_at "sh"))
  | ((with_reducible refine o_ne ?_ ?_ ?_); (walk_at "sh"); (walk_at "sh"))
  | ((with_reducible refine' o_ixL ?hv ?_); (case hv => rfl))
  | ((with_reducible refine' o_ixT ?hv ?_); (case hv => rfl))
  | ((with_reducible refine o_modI ?_ ?_); (walk_at "sz"))
  | ((with_reducible refine o_addL ?_ ?_); (walk_at "sz"))
  | ((with_reducible refine o_addS ?_ ?_); (walk_at "sz"))
  | ((with_reducible refine o_addT ?_ ?_); (walk_at "sz"))
  | ((with_reducible refine c_lenS ?_ ?_); (walk_at "sz"))
  | refine iteT ?_
  | refine iteF ?_
  | refine And.intro (show _ ≤ sizeLine by walk_at "sz") ?_
  | refine ⟨_, rfl, ?_⟩
  | (refine' o_ixT ?hv ?_; (case hv => rfl))
  | (refine' o_ixL ?hv ?_; (case hv => rfl))
  | refine w_call ?_
  | refine w_callR ?_)
local macro_rules | `(tactic| walk_at "ws") => `(tactic| repeat walk_at "w")

section
variable {X : Cx} {T : List (Addr × Str)} {γ C SE CInvalidBook CInvalidForm CInvalidList CInvalidNumber CInvalidPlace CInvalidRole CInvalidTalk CInvalidText : Addr} {σ : L2.St} {ρ : Rho} {H : Hp} {params : Arguments} {body : Expr} {scope : Scope} {i n : Nat} {d : PyData} {t : XK → TE} {Q : VK}
theorem pin_no {o : Obj} {b : Addr} : (∀ xs, pinO o b ≠ .lst xs) ∧ (∀ xs, pinO o b ≠ .tup xs) ∧ pinO o b ≠ .dK [] := by
  unfold pinO
  exact ⟨fun _ z => (nomatch z), fun _ z => (nomatch z), fun z => (nomatch z)⟩
/-- _law_refused(f): f a lambda made here -/
theorem refused_v {f : Addr} (h : Rw T γ σ ρ H) (hi : σ[i]? = some (some (.ref f))) (hl : LamAt X params body scope f H) (ke : Ke X.K CInvalidBook CInvalidForm CInvalidList CInvalidNumber CInvalidPlace CInvalidRole CInvalidTalk CInvalidText SE C n) (L : LamS X.env.scope scope)
    (hbind : ∀ (pm ctv : Value) (c' : Addr), bindArgs (PySem.W.kla_fn "<lambda>" (X.env.qual ++ "<lambda>") params body scope (cloFrom X.env.cells scope.names []) pm (.ref c') ctv) ⟨[], []⟩ = pure [])
    (hbody : ∀ (f c' : Addr) (A : Around) (outer : List Env) (s : Shared) (H : Hp) (E : XK), Room 7 (A.deeper (lamEnv X scope s.heap.objs.size f c')) → PE (lamCx X A outer s H E scope f c') body (t E))
    (hRs : ∀ (cs : Addr → Option Obj) (G Hc : Hp), Ok ⟨some γ, G, H⟩ G H σ ρ → Ex G Hc → (∀ b o, cs b = some o → Hc b = none) → Rs C d G (over cs Hc) (fun E H' Q => t (liftE cs E) σ (mask cs H') fun v H2 => Q v (over cs H2)))
    (q : ∀ x G' H', Rw T γ σ ρ H' → KeepN γ H H' → Ex G' H' → Dd G' x (.list [.str (kName n), d]) → Q x H') :
    tCallC X (sp_law_refused X.prog X.w X.K X.mg X.base CInvalidBook CInvalidForm CInvalidList CInvalidNumber CInvalidPlace CInvalidRole CInvalidTalk CInvalidText SE) [] (tCons (tVar i) tNil) σ H Q := by
  have hw := h
  obtain ⟨G, ok, nt, htb, p, xs, hx⟩ := h
  obtain ⟨c', pm, ctv, hf, hc⟩ := hl
  refine ⟨.ref f, hi, ?_⟩
  intro cs okX CO nn0
  have nn : ∀ b o, H b = some o → cs b = none := fun b o e => by
    cases y : cs b with
    | none => rfl
    | some u => rw [nn0 b u y] at e; cases e
  refine ⟨f, C, d, G, _, n, rfl, ex_over ok.gh nn0, clo_of2 (t := t) okX CO (fun b o e => over_some e) (by rw [over_none (nn f _ hf)]; exact hf) (by rw [over_none (nn c' _ hc)]; exact hc) L (hbind pm ctv c') (fun A outer s H E hr => hbody f c' A outer s H E hr), hRs cs G _ ok ok.gh nn0, ke, fun x G' H2 g1 x2 g3 dx => ⟨fun b o e => x2 b _ (over_some e), ?_⟩⟩
  have m2 : Ex H (mask cs H2) := fun a o e => by
    rw [mask_none (nn a o e)]
    exact x2 a o (by rw [over_none (nn a o e)]; exact e)
  refine q x (mask cs G') _ (rw_ext hw (ExtN.of m2) (tabs_ex htb m2)) (KeepN.of (ExtN.of m2)) (fun b o e => ?_) (dd_mask (fun b o u hb hu => ?_) dx)
  · cases y : cs b with
    | none =>
      rw [mask_none y] at e ⊢
      exact g3 _ _ e
    | some u =>
      rw [mask_some y] at e
      cases e
  · have a := g3 _ _ hu
    have a2 := x2 b _ (over_some (H := H) hb)
    rw [a2] at a
    have : u = pinO o b := (Option.some.inj a).symm
    rw [this]
    exact pin_no
/-- _law_refused(lambda: body) -/
theorem refused_e (h : Rw T γ σ ρ H) (ke : Ke X.K CInvalidBook CInvalidForm CInvalidList CInvalidNumber CInvalidPlace CInvalidRole CInvalidTalk CInvalidText SE C n) (L : LamS X.env.scope scope)
    (hbind : ∀ (pm ctv : Value) (c' : Addr), bindArgs (PySem.W.kla_fn "<lambda>" (X.env.qual ++ "<lambda>") params body scope (cloFrom X.env.cells scope.names []) pm (.ref c') ctv) ⟨[], []⟩ = pure [])
    (hbody : ∀ (f c' : Addr) (A : Around) (outer : List Env) (s : Shared) (H : Hp) (E : XK), Room 7 (A.deeper (lamEnv X scope s.heap.objs.size f c')) → PE (lamCx X A outer s H E scope f c') body (t E))
    (hRs : ∀ (cs : Addr → Option Obj) (G Hc : Hp), Ok ⟨some γ, G, H⟩ G H σ ρ → Ex G Hc → (∀ b o, cs b = some o → Hc b = none) → Rs C d G (over cs Hc) (fun E H' Q => t (liftE cs E) σ (mask cs H') fun v H2 => Q v (over cs H2)))
    (q : ∀ x G' H', Rw T γ σ ρ H' → KeepN γ H H' → Ex G' H' → Dd G' x (.list [.str (kName n), d]) → Q x H') :
    tCallC X (sp_law_refused X.prog X.w X.K X.mg X.base CInvalidBook CInvalidForm CInvalidList CInvalidNumber CInvalidPlace CInvalidRole CInvalidTalk CInvalidText SE) [] (tCons (tLamE X T params body scope) tNil) σ H Q := by
  have hw := h
  obtain ⟨G, ok, nt, htb, p, xs, hx⟩ := h
  refine ⟨htb, fun f c' pm ctv H1 e1 T1 nf hco => ?_⟩
  intro cs okX CO n0
  have hc1 : Ex H1 (upd H1 f (pinO (lamObj X params body scope pm c' ctv) f)) := ex_upd nf
  have ge : Ex G (upd H1 f (pinO (lamObj X params body scope pm c' ctv) f)) := fun a o e => hc1 a o (e1 a o (ok.gh a o e) fun ps z => nt a ps (by rw [e, z]))
  have nn : ∀ b o, upd H1 f (pinO (lamObj X params body scope pm c' ctv) f) b = some o → cs b = none := fun b o e => by
    cases y : cs b with
    | none => rfl
    | some u => rw [n0 b u y] at e; cases e
  refine ⟨f, C, d, G, _, n, rfl, ex_over ge n0, clo_of2 (t := t) okX CO (fun b o e => over_some e) (by rw [over_none (nn f _ upd_same)]; exact upd_same) (by rw [over_none (nn c' _ (hc1 _ _ hco))]; exact hc1 _ _ hco) L (hbind pm ctv c') (fun A outer s H E hr => hbody f c' A outer s H E hr), hRs cs G _ ok ge n0, ke, fun x G' H2 g1 x2 g3 dx => ⟨fun b o e => x2 b _ (over_some e), ?_⟩⟩
  have m2 : Ex (upd H1 f (pinO (lamObj X params body scope pm c' ctv) f)) (mask cs H2) := fun a o e => by
    rw [mask_none (nn a o e)]
    exact x2 a o (by rw [over_none (nn a o e)]; exact e)
  have e2 : ExtN H (mask cs H2) := e1.trans (ExtN.of fun a o e => m2 a o (hc1 a o e))
  refine q x (mask cs G') _ (rw_ext hw e2 (tabs_ex T1 (hc1.trans m2))) (KeepN.of e2) (fun b o e => ?_) (dd_mask (fun b o u hb hu => ?_) dx)
  · cases y : cs b with
    | none =>
      rw [mask_none y] at e ⊢
      exact g3 _ _ e
    | some u =>
      rw [mask_some y] at e
      cases e
  · have a := g3 _ _ hu
    have a2 := x2 b _ (over_some (H := upd H1 f (pinO (lamObj X params body scope pm c' ctv) f)) hb)
    rw [a2] at a
    have : u = pinO o b := (Option.some.inj a).symm
    rw [this]
    exact pin_no
end
end K81


namespace K81
open PySem PySem.Spec PyProof.Rows L2 DL ErX ClX
open Evl (Ex)
theorem mD_inj {a b : Str × Str} (h : mD a = mD b) : a = b := by
  simp only [mD, PyData.tuple.injEq, List.cons.injEq, PyData.str.injEq, and_true] at h
  exact Prod.ext h.1 h.2
theorem AllC.lt {z : Str} (h : AllC z) : ∀ c ∈ z.cps.toList, c < 0x110000 := fun c hc => Nat.lt_trans (okC_lt (h c hc)) (by decide)
theorem AllC.app {x y : Str} (h : AllC x) (h' : AllC y) : AllC (x ++ y) := fun c hc => by
  rw [Str.cps_append, Array.toList_append] at hc
  rcases List.mem_append.mp hc with q | q
  · exact h c q
  · exact h' c q
section
variable {rs : List (Str × Str × Str)} {es : List (Nat × Str)}
theorem escT_ok (o : FormOk rs es) {c : Nat} (h : okC c = true) : AllC (escT es c) := by
  unfold escT
  cases q : es.find? fun e => decide (e.1 = c) with
  | none =>
    intro x hx
    simp [sg] at hx
    rw [hx]
    exact h
  | some e => exact (o.he e (List.mem_of_find?_eq_some q)).2.1
theorem outT_ok (o : FormOk rs es) {z : Str} (h : AllC z) : AllC (outT es z) := fun c hc => by
  unfold outT at hc
  rw [DL.join_nil] at hc
  obtain ⟨y, hy, hcy⟩ := List.mem_flatMap.mp hc
  obtain ⟨x, hx, rfl⟩ := List.mem_map.mp hy
  exact escT_ok o (h x hx) c hcy
theorem addM_ok (o : FormOk rs es) {s : Str} {m : Str × Str} (hs : AllC s) (h : MsgOk rs m) : AllC (addM rs es s m) := by
  obtain ⟨r, _, e, hr⟩ := rl_of h.1
  unfold addM
  rw [e]
  exact ((hs.app (o.hr r hr).2.1.1).app (outT_ok o h.2)).app (o.hr r hr).2.2.1
theorem wrT_okF (o : FormOk rs es) : ∀ {ms : List (Str × Str)} {s : Str}, AllC s → (∀ m ∈ ms, MsgOk rs m) → AllC (ms.foldl (addM rs es) s)
  | [], _, hs, _ => hs
  | m :: ms, s, hs, h => wrT_okF (ms := ms) o (addM_ok o hs (h m List.mem_cons_self)) fun x hx => h x (List.mem_cons_of_mem _ hx)
theorem wrT_ok (o : FormOk rs es) {ms : List (Str × Str)} (h : ∀ m ∈ ms, MsgOk rs m) : AllC (wrT rs es ms) := wrT_okF o (fun c hc => (nomatch (show c ∈ ([] : List Nat) from hc))) h
theorem wrT_small (o : FormOk rs es) {ms : List (Str × Str)} (h : ∀ m ∈ ms, MsgOk rs m) {b : Bool} (c : Cl b 4 (.list (ms.map mD))) : (wrT rs es ms).length ≤ 1600000 := by
  have l0 := wrT_len o (s := "") h
  have h1 := roomM_wt ms
  have w := c.wt
  have e : Wn 4 = 57928 := by decide
  have e0 : ("" : Str).length = 0 := rfl
  rw [e] at w
  simp only [PyData.weight] at w
  unfold wrT
  omega
end
end K81


namespace K81
open PySem PySem.Spec PyProof.Rows L2 DL ErX ClX LamX
open Evl (Ex)
local macro_rules | `(tactic| walk_at "sz") => `(tactic| first | assumption | (rw [sizeLine_eq]; simp only [List.length_cons, List.length_nil, List.length_append, List.length_map, List.length_replicate, List.length_range]; omega) | (rw [sizeLine_eq]; simp; done) | (rw [sizeLine_eq]; simp; omega) | omega)
local macro_rules | `(tactic| walk_at "sh") => `(tactic| first | assumption | exact shaped_int _ | rfl | (exact ty_shaped (by assumption)) | (decide +kernel))
local macro_rules | `(tactic| walk_at "w") => `(tactic| first
  | ((with_reducible refine' w_var ?hv ?_); (case hv => rfl))
  | (with_reducible refine s_seq ?_)
  | (with_reducible refine s_set ?_)
  | (with_reducible refine s_ret ?_)
  | (with_reducible refine s_if ?_)
  | (with_reducible refine s_next ?_)
  | (with_reducible refine x_seq ?_)
  | (with_reducible refine x_if ?_)
  | ((with_reducible refine' w_isi ?_ ?_); decide)
  | (with_reducible refine w_callB ?_)
  | (with_reducible refine w_op ?_)
  | (with_reducible refine w_cons ?_)
  | (with_reducible refine w_nil ?_)
  | (with_reducible refine w_int ?_)
  | (with_reducible refine w_str ?_)
  | (with_reducible refine w_bl ?_)
  | (with_reducible refine w_non ?_)
  | (with_reducible refine w_test ?_)
  | (with_reducible refine w_tB ?_)
  | (with_reducible refine w_and ?_)
  | (with_reducible refine w_or ?_)
  | (with_reducible refine w_not ?_)
  | (with_reducible refine w_andV ?_)
  | (with_reducible refine w_orV ?_)
  | (with_reducible refine w_notV ?_)
  | (with_reducible refine w_if ?_)
  | ((with_reducible refine' w_chain ?hh ?hv); (case hv => rfl))
  | (with_reducible refine w_lst ?_)
  | (with_reducible refine w_tup ?_)
  | (with_reducible refine w_dnew ?_)
  | (with_reducible refine o_addI ?_)
  | (with_reducible refine o_subI ?_)
  | (with_reducible refine o_ltI ?_)
  | (with_reducible refine o_leI ?_)
  | (with_reducible refine o_gtI ?_)
  | (with_reducible refine o_geI ?_)
  | (with_reducible refine o_ltS ?_)
  | (with_reducible refine o_leS ?_)
  | (with_reducible refine o_gtS ?_)
  | (with_reducible refine o_geS ?_)
  | (with_reducible refine o_eqS ?_)
  | (with_reducible refine o_neS ?_)
  | (with_reducible refine o_isN ?_)
  | (with_reducible refine o_notN ?_)
  | (with_reducible refine o_isB ?_)
  | (with_reducible refine c_lenL ?_)
  | (with_reducible refine c_lenT ?_)
  | (with_reducible refine c_int ?_)
  | (with_reducible refine c_intB ?_)
  | (with_reducible refine c_ord ?_)
  | (with_reducible refine c_tupL ?_)
  | (with_reducible refine c_listL ?_)
  | (with_reducible refine c_listT ?_)
  | ((with_reducible refine o_eq ?_ ?_ ?_); (walk_at "sh"); (walk_at "sh"))
  | ((with_reducible refine o_ne ?_ ?_ ?_); (walk_at "sh"); (walk_at "sh"))
  | ((with_reducible refine' o_ixL ?hv ?_); (case hv => rfl))
  | ((with_reducible refine' o_ixT ?hv ?_); (case hv => rfl))
  | ((with_reducible refine o_modI ?_ ?_); (walk_at "sz"))
  | ((with_reducible refine o_addL ?_ ?_); (walk_at "sz"))
  | ((with_reducible refine o_addS ?_ ?_); (walk_at "sz"))
  | ((with_reducible refine o_addT ?_ ?_); (walk_at "sz"))
  | ((with_reducible refine c_lenS ?_ ?_); (walk_at "sz"))
  | refine iteT ?_
  | refine iteF ?_
  | refine And.intro (show _ ≤ sizeLine by walk_at "sz") ?_
  | refine ⟨_, rfl, ?_⟩
  | (refine' o_ixT ?hv ?_; (case hv => rfl))
  | (refine' o_ixL ?hv ?_; (case hv => rfl))
  | refine w_call ?_
  | refine w_callR ?_)
local macro_rules | `(tactic| walk_at "ws") => `(tactic| repeat walk_at "w")

section
variable {P : Program} {w : World} {K : PySem.W.Frag} {mg : Str → Option Value} {base : Heap} {CF CX CT SE CB CL CN CP CR c tab : Addr} {Tb : List (Addr × Str)}
def lamQ : Str := (envOfC "_law_right" (defScope (top 54)) 0 0 .none).qual ++ "<lambda>"
def sp_law_right (T : List (Addr × Str)) : Sp := fun vs H Q _ => ∃ (γ : Addr) (g : Gn) (G : Hp), vs = [.ref γ] ∧ Ex G H ∧ G γ = none ∧ H γ = some (.lst (genV g)) ∧ NoTbl G ∧ Tabs T H ∧ GB 9000 g ∧
  ∀ H', Tabs T H' → KeepN γ H H' → Q (.bl true) H'
abbrev s_law_right : Stmt := top 54
theorem sc_law_right : FnScope ["generator", "signs", "form", "talk", "kept", "value", "due", "calls", "call", "wanted", "told", "text", "bad", "sign"] ["generator"] (defScope s_law_right) := ⟨rfl, rfl, rfl, by decide +kernel, rfl, by decide +kernel, by decide +kernel⟩
theorem d_law_right (T : Bl mg) (F : FunAtC K mg "_law_right" s_law_right c) (keF : Ke K CB CF CL CN CP CR CT CX SE CF 1) (keT : Ke K CB CF CL CN CP CR CT CX SE CT 6) (keX : Ke K CB CF CL CN CP CR CT CX SE CX 7) (dk_written_talk : DfR P w K mg base (L2.CX P w) 7 "written_talk" ["form", "talk"] (sp_written_talk CF CT)) (TB : TabB base mg c tab) (hm : (tab, lamQ) ∈ Tb) (hu : ∀ p ∈ Tb, p.1 = tab → p.2 = lamQ) (SY : Sy base) (d_law_bent_forms : Df P w K mg base CX0 5 "_law_bent_forms" ["generator", "form"] [] sp_law_bent_forms) (d_law_bent_talks : Df P w K mg base CX0 1 "_law_bent_talks" ["generator", "form", "talk"] [] sp_law_bent_talks) (d_law_drawn_order : Df P w K mg base CX0 3 "_law_drawn_order" ["generator", "things"] [] sp_law_drawn_order) (d_law_form : Df P w K mg base CX0 5 "_law_form" ["generator", "signs", "most", "longest"] [] sp_law_form) (d_law_is_form : Df P w K mg base CX0 2 "_law_is_form" ["value"] [] sp_law_is_form) (d_law_is_talk : Df P w K mg base CX0 2 "_law_is_talk" ["form", "value"] [] sp_law_is_talk) (d_law_of_escape : Df P w K mg base CX0 1 "_law_of_escape" ["form", "sign"] [] sp_law_of_escape) (d_law_pick : Df P w K mg base CX0 3 "_law_pick" ["generator", "things"] [] sp_law_pick) (d_law_refused : Df P w K mg base CX0 10 "_law_refused" ["call"] [] (sp_law_refused P w K mg base CB CF CL CN CP CR CT CX SE)) (d_law_talk : Df P w K mg base CX0 5 "_law_talk" ["generator", "form", "signs", "most", "longest"] [] sp_law_talk) (d_law_text : Df P w K mg base CX0 4 "_law_text" ["generator", "signs", "least", "most"] [] sp_law_text) (d_law_written : Df P w K mg base CX0 2 "_law_written" ["form", "talk"] [] sp_law_written) (d_escaped : Df P w K mg base (L2.CX P w) 7 "escaped" ["form", "text"] [] (sp_escaped CF CX)) (dk_escaped : DfR P w K mg base (L2.CX P w) 7 "escaped" ["form", "text"] (sp_escaped CF CX)) (d_is_form : Df P w K mg base CX0 5 "is_form" ["value"] [] sp_is_form) (dk_is_form : DfR P w K mg base CX0 5 "is_form" ["value"] sp_is_form) (d_is_talk : Df P w K mg base (L2.CX P w) 7 "is_talk" ["form", "value"] [] (sp_is_talk CF)) (dk_is_talk : DfR P w K mg base (L2.CX P w) 7 "is_talk" ["form", "value"] (sp_is_talk CF)) (d_written_talk : Df P w K mg base (L2.CX P w) 7 "written_talk" ["form", "talk"] [] (sp_written_talk CF CT)) : DfG P w K mg base 11 "_law_right" ["generator"] (sp_law_right Tb) := by
  refine dfg_ofC F sc_law_right (fun vs H Q E ⟨γ, g, G, e, _⟩ => by rw [e]; rfl) (fun _ _ _ _ _ _ _ us hl => match us, hl with | [_], _ => rfl) fun f A outer s H E hgd hr => ?_
  refine ⟨_, (pss_cons (ps_set (i := 1) sc_law_right.nd rfl (Or.inl rfl) (pe_def (E := E0) d_law_pick hr (by decide) pass0 (pa_cons (pv 0) (pa_cons (pe_lst (pa_cons pe_str (pa_cons pe_str (pa_cons pe_str (pa_cons pe_str pa_nil))))) pa_nil)))) (pss_cons (ps_set (i := 2) sc_law_right.nd rfl (Or.inr rfl) (pe_def (E := E0) d_law_form hr (by decide) pass0 (pa_cons (pv 0) (pa_cons (pv 1) (pa_cons pe_int (pa_cons pe_int pa_nil)))))) (pss_cons (ps_set (i := 3) sc_law_right.nd rfl (Or.inr rfl) (pe_def (E := E0) d_law_talk hr (by decide) pass0 (pa_cons (pv 0) (pa_cons (pv 2) (pa_cons (pe_op op_addX (pv 1) pe_str) (pa_cons pe_int (pa_cons pe_int pa_nil))))))) (pss_cons (ps_set (i := 4) sc_law_right.nd rfl (Or.inl rfl) (pe_callB (call_reprE SY hgd hr.units) (by rfl) T.repr_ (by rfl) (pa_cons (pe_lst (pa_cons (pv 2) (pa_cons (pv 3) pa_nil))) pa_nil))) (pss_cons (ps_for (passes_of rfl) rfl (pi_any (pe_def (E := E0) d_law_drawn_order hr (by decide) pass0 (pa_cons (pv 0) (pa_cons (pe_op op_addX (pe_lst (pa_cons (pv 2) pa_nil)) (pe_def (E := E0) d_law_bent_forms hr (by decide) pass0 (pa_cons (pv 0) (pa_cons (pv 2) pa_nil)))) pa_nil)))) (pg_name (i := 5) sc_law_right.nd rfl (Or.inr rfl)) (pss_cons (ps_set (i := 6) sc_law_right.nd rfl (Or.inl rfl) (pe_def (E := E0) d_law_is_form hr (by decide) pass0 (pa_cons (pv 5) pa_nil))) (pss_cons (ps_if (PW.pt (pw_or (pt_cmpR L2.op_ne (pe_callB (call_reprE SY hgd hr.units) (by rfl) T.repr_ (by rfl) (pa_cons (pe_def (E := E0) d_is_form hr (by decide) pass0 (pa_cons (pv 5) pa_nil)) pa_nil)) (pe_callB (call_reprE SY hgd hr.units) (by rfl) T.repr_ (by rfl) (pa_cons (pv 6) pa_nil)) (nomark _)) (pw_or1 (pt_cmpR L2.op_ne (pe_callB (call_reprE SY hgd hr.units) (by rfl) T.repr_ (by rfl) (pa_cons (pe_defK (E := E0) dk_is_form hr (by decide) pass0 (pk_cons (pv 5) pk_nil)) pa_nil)) (pe_callB (call_reprE SY hgd hr.units) (by rfl) T.repr_ (by rfl) (pa_cons (pv 6) pa_nil)) (nomark _))))) (pss_one (ps_ret pe_bl)) pss_nil) (pss_cons (ps_set (i := 7) sc_law_right.nd rfl (Or.inl rfl) (pe_lst (pa_cons (pe_lam TB rfl hm hu rfl (lamS_by (sc := defScope s_law_right) (by decide +kernel))) (pa_cons (pe_lam TB rfl hm hu rfl (lamS_by (sc := defScope s_law_right) (by decide +kernel))) (pa_cons (pe_lam TB rfl hm hu rfl (lamS_by (sc := defScope s_law_right) (by decide +kernel))) pa_nil))))) (pss_one (ps_for (passes_of rfl) rfl (pi_any (pe_ifExp (pt_not (pt_val (pv 6))) (pv 7) (pe_lst pa_nil))) (pg_name (i := 8) sc_law_right.nd rfl (Or.inl rfl)) (pss_one (ps_if (pt_cmpR L2.op_ne (pe_callB (call_reprE SY hgd hr.units) (by rfl) T.repr_ (by rfl) (pa_cons (pe_defC d_law_refused hr (by decide) (fun _ => rfl) (pa_cons (pv 8) pa_nil)) pa_nil)) (pe_callB (call_reprE SY hgd hr.units) (by rfl) T.repr_ (by rfl) (pa_cons (pe_lst (pa_cons pe_str (pa_cons (pv 5) pa_nil))) pa_nil)) (nomark _)) (pss_one (ps_ret pe_bl)) pss_nil)))))))) (pss_cons (ps_for (passes_of rfl) rfl (pi_any (pe_def (E := E0) d_law_drawn_order hr (by decide) pass0 (pa_cons (pv 0) (pa_cons (pe_op op_addX (pe_lst (pa_cons (pv 3) (pa_cons (pe_lst pa_nil) pa_nil))) (pe_def (E := E0) d_law_bent_talks hr (by decide) pass0 (pa_cons (pv 0) (pa_cons (pv 2) (pa_cons (pv 3) pa_nil))))) pa_nil)))) (pg_name (i := 5) sc_law_right.nd rfl (Or.inr rfl)) (pss_cons (ps_set (i := 6) sc_law_right.nd rfl (Or.inl rfl) (pe_def (E := E0) d_law_is_talk hr (by decide) pass0 (pa_cons (pv 2) (pa_cons (pv 5) pa_nil)))) (pss_cons (ps_if (PW.pt (pw_or (pt_cmpR L2.op_ne (pe_callB (call_reprE SY hgd hr.units) (by rfl) T.repr_ (by rfl) (pa_cons (pe_def (E := E0) d_is_talk hr (by decide) passL (pa_cons (pv 2) (pa_cons (pv 5) pa_nil))) pa_nil)) (pe_callB (call_reprE SY hgd hr.units) (by rfl) T.repr_ (by rfl) (pa_cons (pv 6) pa_nil)) (nomark _)) (pw_or1 (pt_cmpR L2.op_ne (pe_callB (call_reprE SY hgd hr.units) (by rfl) T.repr_ (by rfl) (pa_cons (pe_defK (E := E0) dk_is_talk hr (by decide) passL (pk_cons (pv 5) (pk_cons (pv 2) pk_nil))) pa_nil)) (pe_callB (call_reprE SY hgd hr.units) (by rfl) T.repr_ (by rfl) (pa_cons (pv 6) pa_nil)) (nomark _))))) (pss_one (ps_ret pe_bl)) pss_nil) (pss_cons (ps_set (i := 9) sc_law_right.nd rfl (Or.inl rfl) (pe_ifExp (pt_val (pv 6)) (pe_def (E := E0) d_law_written hr (by decide) pass0 (pa_cons (pv 2) (pa_cons (pv 5) pa_nil))) (pe_lst (pa_cons pe_str (pa_cons (pv 5) pa_nil))))) (pss_cons (ps_set (i := 10) sc_law_right.nd rfl (Or.inl rfl) (pe_ifExp (pt_val (pv 6)) (pe_def (E := E0) d_written_talk hr (by decide) passL (pa_cons (pv 2) (pa_cons (pv 5) pa_nil))) (pe_defC d_law_refused hr (by decide) (fun _ => rfl) (pa_cons (pe_lam TB rfl hm hu rfl (lamS_by (sc := defScope s_law_right) (by decide +kernel))) pa_nil)))) (pss_one (ps_if (pt_cmpR L2.op_ne (pe_callB (call_reprE SY hgd hr.units) (by rfl) T.repr_ (by rfl) (pa_cons (pv 10) pa_nil)) (pe_callB (call_reprE SY hgd hr.units) (by rfl) T.repr_ (by rfl) (pa_cons (pv 9) pa_nil)) (nomark _)) (pss_one (ps_ret pe_bl)) pss_nil))))))) (pss_cons (ps_set (i := 11) sc_law_right.nd rfl (Or.inl rfl) (pe_def (E := E0) d_law_text hr (by decide) pass0 (pa_cons (pv 0) (pa_cons (pe_op op_addX (pv 1) pe_str) (pa_cons pe_int (pa_cons pe_int pa_nil)))))) (pss_cons (ps_set (i := 6) sc_law_right.nd rfl (Or.inl rfl) (pe_join pe_str (pe_lc (own := [("sign", 13)]) (g := (gName 13)) (tt := tYes) (te := (tCall sp_law_of_escape [] E0 (tCons (tVar 2) (tCons (tVar 13) tNil)))) rfl sc_law_right.nd (pi_any (pv 11)) (blkOk_by (N := ["generator", "signs", "form", "talk", "kept", "value", "due", "calls", "call", "wanted", "told", "text", "bad", "sign"]) (sc := defScope s_law_right) (by decide +kernel)) (fun _ _ _ _ _ => (pg_name (i := 13) sc_law_right.nd rfl (Or.inl rfl))) (fun _ _ _ _ _ => pts_nil) (fun _ _ _ _ _ => (pe_def (E := E0) d_law_of_escape hr (by decide) pass0 (pa_cons (pv 2) (pa_cons (pv 13) pa_nil))))))) (pss_cons (ps_if (PW.pt (pw_or (pt_cmpR L2.op_ne (pe_callB (call_reprE SY hgd hr.units) (by rfl) T.repr_ (by rfl) (pa_cons (pe_def (E := E0) d_escaped hr (by decide) passL (pa_cons (pv 2) (pa_cons (pv 11) pa_nil))) pa_nil)) (pe_callB (call_reprE SY hgd hr.units) (by rfl) T.repr_ (by rfl) (pa_cons (pv 6) pa_nil)) (nomark _)) (pw_or1 (pt_cmpR L2.op_ne (pe_callB (call_reprE SY hgd hr.units) (by rfl) T.repr_ (by rfl) (pa_cons (pe_defK (E := E0) dk_escaped hr (by decide) passL (pk_cons (pv 11) (pk_cons (pv 2) pk_nil))) pa_nil)) (pe_callB (call_reprE SY hgd hr.units) (by rfl) T.repr_ (by rfl) (pa_cons (pv 6) pa_nil)) (nomark _))))) (pss_one (ps_ret pe_bl)) pss_nil) (pss_cons (ps_for (passes_of rfl) rfl (pi_any (pe_lst (pa_cons pe_non (pa_cons pe_int (pa_cons (pe_lst (pa_cons pe_str pa_nil)) (pa_cons pe_str (pa_cons (pe_tup (pa_cons pe_str pa_nil)) pa_nil))))))) (pg_name (i := 12) sc_law_right.nd rfl (Or.inr rfl)) (pss_one (ps_if (pt_cmpR L2.op_ne (pe_callB (call_reprE SY hgd hr.units) (by rfl) T.repr_ (by rfl) (pa_cons (pe_defC d_law_refused hr (by decide) (fun _ => rfl) (pa_cons (pe_lam TB rfl hm hu rfl (lamS_by (sc := defScope s_law_right) (by decide +kernel))) pa_nil)) pa_nil)) (pe_callB (call_reprE SY hgd hr.units) (by rfl) T.repr_ (by rfl) (pa_cons (pe_lst (pa_cons pe_str (pa_cons (pv 12) pa_nil))) pa_nil)) (nomark _)) (pss_one (ps_ret pe_bl)) pss_nil))) (pss_one (ps_ret (pe_cmpR L2.op_eq (pe_callB (call_reprE SY hgd hr.units) (by rfl) T.repr_ (by rfl) (pa_cons (pe_lst (pa_cons (pv 2) (pa_cons (pv 3) pa_nil))) pa_nil)) (pv 4) (nomark _)))))))))))))), fun vs Q h => ?_⟩
  obtain ⟨γ, g, G, rfl, gg, gn, hg, nt, ht, hgb, hq⟩ := h
  refine rw_seq (N := fun ρ' => ∃ (z : Str) (g1 : Gn), ρ' = [.gen g1, .dat (.str z), .no, .no, .no, .no, .no, .no, .no, .no, .no, .no, .no, .no] ∧ z ∈ (["ab", "ab[", "[]x\\", "a\n ~"] : List Str) ∧ GS 6 g g1) (rw_start (k := 13) (ds := []) rfl gg gn hg .nil nt ht) ?_ (fun σ1 H1 ρ1 R1 k1 ⟨z, g1, e1, hz, hs1⟩ => ?_)
  · refine (s_set (w_callG rfl (w_cons (w_lst (w_cons (w_str (w_cons (w_str (w_cons (w_str (w_cons (w_str (w_nil (⟨by decide, w_nil ⟨g, rfl, one0 (by simp [rho0, List.replicate, ng_dat, ng_no]), rfl, ⟨_, rfl, .inl ⟨_, rfl⟩, by decide, by decide, hgb.le (by decide)⟩, ?_⟩⟩))))))))))))))
    rintro d g1 ⟨x, e, hd, hs⟩
    cases e
    rcases hd with ⟨xs, e, hx⟩ | ⟨_, _, e, _⟩
    · cases e
      obtain ⟨z, hz, rfl⟩ : ∃ z ∈ (["ab", "ab[", "[]x\\", "a\n ~"] : List Str), d = .str z := by
        simp only [List.mem_cons, List.not_mem_nil, or_false] at hx
        rcases hx with rfl | rfl | rfl | rfl <;> exact ⟨_, by simp, rfl⟩
      exact ⟨plain_by rfl, ⟨g1, 0, rfl⟩, z, g1, rfl, hz, hs⟩
    · cases e
  subst e1
  have zf : AllC z ∧ z.cps.toList.Nodup ∧ 0 < z.length ∧ z.length ≤ 10 := by
    simp only [List.mem_cons, List.not_mem_nil, or_false] at hz
    rcases hz with rfl | rfl | rfl | rfl <;> exact ⟨by unfold AllC; decide, by decide, by decide, by decide⟩
  obtain ⟨za, zn, z0, z1⟩ := zf
  refine rw_seq (N := fun ρ' => ∃ (rs : List (Str × Str × Str)) (es : List (Nat × Str)) (g2 : Gn), ρ' = [.gen g2, .dat (.str z), .dat (fD rs es), .no, .no, .no, .no, .no, .no, .no, .no, .no, .no, .no] ∧ FormOk rs es ∧ GS 2400 g1 g2) R1 ?_ (fun σ2 H2 ρ2 R2 k2 ⟨rs, es, g2, e2, o, hs2⟩ => ?_)
  · refine (s_set (w_callG rfl (w_cons (w_var rfl (w_cons (w_int (w_cons (w_int (w_nil (⟨g1, rfl, one0 (by simp [ng_dat, ng_no]), rfl, ⟨z, rfl, za, zn, z0, z1, hs1.gb (hgb.le (by decide))⟩, ?_⟩))))))))))
    rintro d g2 ⟨rs, es, rfl, o, hs⟩
    exact ⟨plain_by rfl, ⟨g2, 0, rfl⟩, rs, es, g2, rfl, o, hs⟩
  subst e2
  have zq : AllC (z ++ "zQ") ∧ 0 < (z ++ "zQ").length ∧ (z ++ "zQ").length ≤ 100 := by
    refine ⟨fun c hc => ?_, ?_, ?_⟩
    · rw [Str.cps_append, Array.toList_append] at hc
      rcases List.mem_append.mp hc with q | q
      · exact za c q
      · have : ∀ c ∈ ("zQ" : Str).cps.toList, okC c = true := by decide
        exact this c q
    · rw [Str.length_append]
      omega
    · rw [Str.length_append]
      have : ("zQ" : Str).length = 2 := rfl
      omega
  refine rw_seq (N := fun ρ' => ∃ (ms : List (Str × Str)) (g3 : Gn), ρ' = [.gen g3, .dat (.str z), .dat (fD rs es), .dat (.list (ms.map mD)), .no, .no, .no, .no, .no, .no, .no, .no, .no, .no] ∧ ms.length ≤ 4 ∧ (∀ m ∈ ms, MsgOk rs m ∧ m.2.length ≤ 5) ∧ GS 600 g2 g3) R2 ?_ (fun σ3 H3 ρ3 R3 k3 ⟨ms, g3, e3, hm4, hms, hs3⟩ => ?_)
  · refine (s_set (w_callG rfl (w_cons (w_var rfl (w_cons (w_op (w_var rfl (w_str (o_addS (by rw [sizeLine_eq]; have : ("zQ" : Str).length = 2 := rfl; omega) (w_cons (w_int (w_cons (w_int (w_nil (⟨g2, rfl, one0 (by simp [ng_dat, ng_no]), rfl, ⟨rs, es, z ++ "zQ", rfl, o, zq.1, zq.2.1, zq.2.2, (hs1.trans hs2).gb (hgb.le (by decide))⟩, ?_⟩)))))))))))))))
    rintro d g3 ⟨rs', es', s', ms, e, rfl, h4, h5, hs⟩
    simp only [List.cons.injEq, and_true, PyData.str.injEq] at e
    obtain ⟨e1, _⟩ := e
    obtain ⟨e1, _⟩ := fD_inj e1
    subst e1
    exact ⟨plain_by rfl, ⟨g3, 0, rfl⟩, ms, g3, rfl, h4, h5, hs⟩
  subst e3
  have cF : Cl true 3 (fD rs es) := Cl.tup (Al.cons Cl.lit (Al.cons (Cl.list (al_roles o.hr) (by rw [List.length_map]; have := o.r6; omega)) (Al.cons (cl_escs o.he o.e12) Al.nil))) (Nat.le_of_ble_eq_true rfl)
  have cT : Cl true 2 (.list (ms.map mD)) := Cl.list (al_msgs o.hr hms) (by rw [List.length_map]; omega)
  have cK : Cl true 4 (.list [fD rs es, .list (ms.map mD)]) := Cl.list (Al.cons cF (Al.cons cT.up Al.nil)) (Nat.le_of_ble_eq_true rfl)
  refine rw_seq (N := fun ρ' => ρ' = [.gen g3, .dat (.str z), .dat (fD rs es), .dat (.list (ms.map mD)), .dat (.str (PyData.list [fD rs es, .list (ms.map mD)]).shown), .no, .no, .no, .no, .no, .no, .no, .no, .no]) R3 ?_ (fun σ4 H4 ρ4 R4 k4 e4 => ?_)
  · refine (s_set (w_callB (w_cons (w_lst (w_cons (w_var rfl (w_cons (w_var rfl (w_nil (⟨(show (2 : Nat) ≤ sizeLine by decide), w_nil (c_reprN cK.nz ?_)⟩))))))))))
    exact ⟨plain_by rfl, ⟨g3, 0, rfl⟩, rfl⟩
  subst e4
  have cF0 : Cl false 3 (fD rs es) := Cl.tup (Al.cons Cl.lit (Al.cons (Cl.list (al_roles o.hr) (by rw [List.length_map]; have := o.r6; omega)) (Al.cons (cl_escs o.he o.e12) Al.nil))) (Nat.le_of_ble_eq_true rfl)
  generalize hkept : (PyData.list [fD rs es, .list (ms.map mD)]).shown = kept at *
  refine rw_forS (N := fun ds ρ' => ∃ g4 : Gn, ρ' = [.gen g4, .dat (.str z), .dat (fD rs es), .dat (.list (ms.map mD)), .dat (.str kept), .no, .no, .no, .no, .no, .no, .no, .no, .no] ∧ Al false 4 ds ∧ GS 720 g3 g4) R4 ?_ (fun ds ρ5 ⟨g4, e5, ad, hs4⟩ => ⟨fun n ρ' => ρ' = ρ5, rfl, fun σ5 H5 ρ6 R5 k5 i5 => ?_, fun n d ρ6 σ5 H5 hd i5 R5 k5 => ?_⟩)
  · refine (w_callG rfl (w_cons (w_op (w_lst (w_cons (w_var rfl (w_nil (⟨(show (1 : Nat) ≤ sizeLine by decide), ?_⟩))))))))
    refine (w_callG rfl (w_cons (w_var rfl (w_nil (⟨g3, rfl, one0 (by simp [ng_dat, ng_no]), rfl, ⟨rs, es, rfl, o, ?_⟩, ?_⟩)))))
    · exact ((hs1.trans hs2).trans hs3).gb (hgb.le (by decide))
    rintro d g4 ⟨xs, rfl, lx, ax, hs⟩
    refine o_addL (by rw [sizeLine_eq]; simp only [List.length_singleton]; omega) (w_nil ⟨g4, rfl, one0 (by simp [ng_dat, ng_no]), rfl, ⟨_, rfl, ?_, ?_⟩, ?_⟩)
    · rw [List.length_append, List.length_singleton]
      omega
    · exact (((hs1.trans hs2).trans hs3).trans hs).gb (hgb.le (by decide))
    rintro d g5 ⟨ys, l, e, rfl, pm, hs'⟩
    cases e
    exact ⟨l, rfl, plain_by rfl, ⟨g5, 0, rfl⟩, g5, rfl, fun x hx => (Al.app (Al.cons cF0.up Al.nil) ax) x (pm.mem_iff.mp hx), hs.trans hs'⟩
  · subst i5
    subst e5
    have hs14 := ((hs1.trans hs2).trans hs3).trans hs4
    refine rw_forS (N := fun ds ρ' => ∃ g5 : Gn, ρ' = [.gen g5, .dat (.str z), .dat (fD rs es), .dat (.list (ms.map mD)), .dat (.str kept), .no, .no, .no, .no, .no, .no, .no, .no, .no] ∧ Al true 4 ds ∧ GS 601 g4 g5) R5 ?_ (fun ds2 ρ6 ⟨g5, e6, ad2, hs5⟩ => ⟨fun n ρ' => ρ' = ρ6, rfl, fun σ6 H6 ρ7 R6 k6 i6 => ?_, fun n d ρ7 σ6 H6 hd i6 R6 k6 => ?_⟩)
    · refine (w_callG rfl (w_cons (w_op (w_lst (w_cons (w_var rfl (w_cons (w_lst (w_nil (⟨(show (0 : Nat) ≤ sizeLine by decide), w_nil ⟨(show (2 : Nat) ≤ sizeLine by decide), ?_⟩⟩))))))))))
      refine (w_callG rfl (w_cons (w_var rfl (w_cons (w_var rfl (w_nil (⟨g4, rfl, one0 (by simp [ng_dat, ng_no]), rfl, ⟨rs, es, ms, rfl, o, hm4, hms, ?_⟩, ?_⟩)))))))
      · exact hs14.gb (hgb.le (by decide))
      rintro d g5 ⟨xs, rfl, lx, ax, hs⟩
      refine o_addL (by rw [sizeLine_eq]; simp only [List.length_cons, List.length_nil]; omega) (w_nil ⟨g5, rfl, one0 (by simp [ng_dat, ng_no]), rfl, ⟨_, rfl, ?_, ?_⟩, ?_⟩)
      · rw [List.length_append]
        simp only [List.length_cons, List.length_nil]
        omega
      · exact (hs14.trans hs).gb (hgb.le (by decide))
      rintro d g6 ⟨ys, l, e, rfl, pm, hs'⟩
      cases e
      exact ⟨l, rfl, plain_by rfl, ⟨g6, 0, rfl⟩, g6, rfl, fun x hx => (Al.app (Al.cons cT.up.up (Al.cons (Cl.list (Al.nil (n := 3)) (by decide)) Al.nil)) ax) x (pm.mem_iff.mp hx), hs.trans hs'⟩
    · subst i6
      subst e6
      have hs15 := hs14.trans hs5
      have zq2 : AllC (z ++ "zQ\n") := za.app (by unfold AllC; decide)
      refine rw_seq (N := fun ρ' => ∃ (zt : Str) (g6 : Gn), ρ' = [.gen g6, .dat (.str z), .dat (fD rs es), .dat (.list (ms.map mD)), .dat (.str kept), .no, .no, .no, .no, .no, .no, .dat (.str zt), .no, .no] ∧ AllC zt ∧ zt.length ≤ 9) R6 ?_ (fun σ7 H7 ρ7 R7 k7 ⟨zt, g6, e7, zta, ztl⟩ => ?_)
      · have l3 : ("zQ\n" : Str).length = 3 := rfl
        refine (s_set (w_callG rfl (w_cons (w_op (w_var rfl (w_str (o_addS (by rw [sizeLine_eq]; omega) (w_cons (w_int (w_cons (w_int (w_nil (⟨g5, rfl, one0 (by simp [ng_dat, ng_no]), rfl, ⟨z ++ "zQ\n", 0, 9, rfl, by decide, by decide, by rw [Str.length_append]; omega, by rw [Str.length_append]; omega, hs15.gb (hgb.le (by decide))⟩, ?_⟩)))))))))))))
        rintro d g6 ⟨s', a', b', zt, e, rfl, ht, _, hl, hs⟩
        simp only [List.cons.injEq, and_true, PyData.str.injEq, PyData.int.injEq] at e
        obtain ⟨e1, e2, e3⟩ := e
        subst e1
        have : b' = 9 := by omega
        subst this
        exact ⟨plain_by rfl, ⟨g6, 0, rfl⟩, zt, g6, rfl, fun c hc => zq2 c (ht c hc), hl⟩
      subst e7
      have nzt : Nz true (.str zt) := Cl.nz (n := 0) (Cl.str zta.lt (by omega))
      have ook := (outT_ok o zta).lt
      have osm : (outT es zt).length ≤ 1600000 := by
        have := outT_len o zt
        omega
      refine rw_seq (N := fun ρ' => ρ' = [.gen g6, .dat (.str z), .dat (fD rs es), .dat (.list (ms.map mD)), .dat (.str kept), .no, .dat (.str (outT es zt)), .no, .no, .no, .no, .dat (.str zt), .no, .no]) R7 ?_ (fun σ8 H8 ρ8 R8 k8 e8 => ?_)
      · refine s_set (w_join (w_str ⟨rfl, ?_⟩))
        refine w_mapL zt.cps.toList (fun c => .str (sg c)) PyData.str (escT es) rfl (lineK (by rw [Array.length_toList]; exact Nat.le_trans ztl (by decide))) (i_anyS (w_var rfl ⟨_, rfl, rfl, rfl⟩)) (fun c hc => ?_) ?_
        · refine w_call (w_cons (w_var rfl (w_cons (w_var rfl (w_nil ⟨rfl, ⟨_, _, _, rfl, o, zta.lt c hc⟩, ?_⟩)))))
          rintro d ⟨rs', es', c', e, rfl⟩
          simp only [List.cons.injEq, and_true, PyData.str.injEq, sg, str_inj] at e
          obtain ⟨e1, e2⟩ := e
          obtain ⟨_, e3⟩ := fD_inj e1
          subst e2
          subst e3
          exact ⟨rfl, rfl⟩
        refine ⟨zt.cps.toList.map (escT es), rfl, ?_, plain_by rfl, ⟨g6, 0, rfl⟩, rfl⟩
        have := sum_len4 (escT_len o) zt.cps.toList
        have e0 : ("" : Str).length = 0 := rfl
        have e1 : zt.cps.toList.length = zt.length := by rw [Array.length_toList]; rfl
        rw [e0, Nat.mul_zero]
        omega
      subst e8
      have isF : IsForm (fD rs es) := ⟨rs, es, rfl, o⟩
      have nbE : ∀ (C : Addr) (y : PyData), ¬ ((C = CF ∧ ∃ f x, [fD rs es, .str zt] = [f, x] ∧ ¬ IsForm f ∧ y = f) ∨ (C = CX ∧ ∃ rs' es' x, [fD rs es, .str zt] = [fD rs' es', x] ∧ FormOk rs' es' ∧ ¬ IsTx x ∧ y = x)) := by
        rintro C y (⟨_, f', x', e, h, _⟩ | ⟨_, rs', es', x', e, o', h, _⟩)
        · exact h ((List.cons.inj e).1 ▸ isF)
        · simp only [List.cons.injEq, and_true] at e
          exact h (e.2 ▸ ⟨zt, rfl, zta⟩)
      have hE : ∀ d', (∃ rs' es' z', [fD rs es, .str zt] = [fD rs' es', .str z'] ∧ FormOk rs' es' ∧ AllC z' ∧ d' = PyData.str (outT es' z')) → d' = .str (outT es zt) := by
        rintro d' ⟨rs', es', z', e, _, _, rfl⟩
        simp only [List.cons.injEq, and_true, PyData.str.injEq] at e
        obtain ⟨e1, e2⟩ := e
        obtain ⟨_, e3⟩ := fD_inj e1
        subst e2
        subst e3
        rfl
      refine rw_seq (N := fun ρ' => ρ' = [.gen g6, .dat (.str z), .dat (fD rs es), .dat (.list (ms.map mD)), .dat (.str kept), .no, .dat (.str (outT es zt)), .no, .no, .no, .no, .dat (.str zt), .no, .no]) R8 ?_ (fun σ9 H9 ρ9 R9 k9 e9 => ?_)
      · refine (s_if (w_or (w_test (w_op (w_callB (w_cons (w_callR (w_cons (w_var rfl (w_cons (w_var rfl (w_nil (⟨rfl, ⟨_, _, rfl, cF0.nz, nzt⟩, nbE, fun d' hd' => ?_⟩)))))))))))))
        rw [hE d' hd']
        refine (w_nil (c_reprS ook osm (w_callB (w_cons (w_var rfl (w_nil (c_reprS ook osm (o_neS ⟨_, rfl, ?_⟩))))))))
        rw [decide_eq_true rfl]
        refine iteF (w_test (w_op (w_callB (w_cons (w_defK (w_cons (w_var rfl (w_cons (w_var rfl (w_nil (⟨rfl, rfl, ⟨_, _, rfl, cF0.nz, nzt⟩, nbE, fun d' hd' => ?_⟩)))))))))))
        rw [hE d' hd']
        refine (w_nil (c_reprS ook osm (w_callB (w_cons (w_var rfl (w_nil (c_reprS ook osm (o_neS ⟨_, rfl, ?_⟩))))))))
        rw [decide_eq_true rfl]
        exact iteF (s_next ⟨plain_by rfl, ⟨g6, 0, rfl⟩, rfl⟩)
      subst e9
      refine rw_forS (N := fun ds ρ' => ρ' = [.gen g6, .dat (.str z), .dat (fD rs es), .dat (.list (ms.map mD)), .dat (.str kept), .no, .dat (.str (outT es zt)), .no, .no, .no, .no, .dat (.str zt), .no, .no] ∧ ds = [.none, .int 7, .list [.str "a"], .str "a\tb", .tuple [.str "a"]]) R9 ?_ (fun ds ρ10 ⟨e10, eds⟩ => ⟨fun n ρ' => ρ' = ρ10, rfl, fun σ10 H10 ρ11 R10 k10 i10 => ?_, fun n d ρ11 σ10 H10 hd i10 R10 k10 => ?_⟩)
      · refine (w_lst (w_cons (w_non (w_cons (w_int (w_cons (w_lst (w_cons (w_str (w_nil (⟨(show (1 : Nat) ≤ sizeLine by decide), ?_⟩)))))))))))
        refine (w_cons (w_str (w_cons (w_tup (w_cons (w_str (w_nil (⟨(show (1 : Nat) ≤ sizeLine by decide), w_nil ⟨(show (5 : Nat) ≤ sizeLine by decide), ?_⟩⟩))))))))
        exact ⟨_, rfl, plain_by rfl, ⟨g6, 0, rfl⟩, rfl, rfl⟩
      · subst i10
        subst e10
        refine rw_step (N := fun _ => False) (Rt := fun d' _ => d' = .bool true) R10 ?_ (fun _ _ _ _ _ z => z.elim) (fun v H' ρ' d' G' hd' k' t' dv => ?_)
        · refine (s_ret (w_op (w_callB (w_cons (w_lst (w_cons (w_var rfl (w_cons (w_var rfl (w_nil (⟨(show (2 : Nat) ≤ sizeLine by decide), w_nil (c_reprN cK.nz ?_)⟩)))))))))))
          refine w_var rfl (o_eqS ?_)
          rw [hkept, decide_eq_true rfl]
        · subst hd'
          rw [dv.bl']
          exact hq H' t' ((((((((((k1.trans k2).trans k3).trans k4).trans k5).trans k6).trans k7).trans k8).trans k9).trans k10).trans k')
      · subst i10
        subst e10
        subst eds
        have bd : Cl true 4 d ∧ ¬ IsTx d := by
          have hm := List.mem_of_getElem? hd
          simp only [List.mem_cons, List.not_mem_nil, or_false] at hm
          rcases hm with rfl | rfl | rfl | rfl | rfl
          · exact ⟨Cl.non, fun ⟨_, e, _⟩ => nomatch e⟩
          · exact ⟨Cl.int, fun ⟨_, e, _⟩ => nomatch e⟩
          · exact ⟨Cl.list (Al.cons Cl.lit (Al.nil (n := 3))) (by decide), fun ⟨_, e, _⟩ => nomatch e⟩
          · refine ⟨Cl.lit (by decide), fun ⟨x, e, h⟩ => ?_⟩
            cases e
            exact absurd (h 9 (by decide)) (by decide)
          · exact ⟨Cl.tup (Al.cons Cl.lit (Al.nil (n := 3))) (by decide), fun ⟨_, e, _⟩ => nomatch e⟩
        have nzr : Nz true (.list [.str (kName 7), d]) := nz_pair (Cl.lit (by decide)) bd.1
        refine shown_if (ρ := [.gen g6, .dat (.str z), .dat (fD rs es), .dat (.list (ms.map mD)), .dat (.str kept), .no, .dat (.str (outT es zt)), .no, .no, .no, .no, .dat (.str zt), .dat d, .no]) nzr (fun Q hQ => refused_e (n := 7) (d := d) (C := CX) (t := fun E => tCall (sp_escaped CF CX) [] E (tCons (tVar 2) (tCons (tVar 12) tNil))) R10 keX (lamS_by (sc := defScope s_law_right) (by decide +kernel)) (fun _ _ _ => rfl)
          (fun f c' A outer s H E hr => pe_def (E := E) d_escaped hr (by decide) (passes_call (takes_of rfl rfl rfl rfl) fun _ _ _ _ h => h) (pa_cons (pv 2) (pa_cons (pv 12) pa_nil)))
          (hRs2 (di := fD rs es) (dj := d) rfl rfl ⟨_, _, rfl, cF0.nz, bd.1.nz⟩ (fun d' => ?_) (fun C' x => ?_)) hQ) ⟨g6, 0, rfl⟩ ?_ (fun H2 R2 k2 => ⟨_, rw_forget R2 12, k2, rfl⟩)
        · rintro ⟨rs', es', z', e, _, hz', _⟩
          simp only [List.cons.injEq, and_true] at e
          exact bd.2 ⟨z', e.2, hz'⟩
        · rintro (⟨_, f', x', e, h, _⟩ | ⟨rfl, rs', es', x', e, o', _, rfl⟩)
          · exact absurd isF (by rw [(List.cons.inj e).1]; exact h)
          · simp only [List.cons.injEq, and_true] at e
            exact ⟨rfl, e.2.symm⟩
        · refine (w_callB (w_cons (w_lst (w_cons (w_str (w_cons (w_var rfl (w_nil (⟨(show (2 : Nat) ≤ sizeLine by decide), w_nil (c_reprN nzr ⟨rfl, rfl⟩)⟩)))))))))
    · subst i6
      subst e6
      have cd : Cl true 4 d := ad2 _ (List.mem_of_getElem? hd)
      have nd : Nz true d := cd.nz
      have isF : IsForm (fD rs es) := ⟨rs, es, rfl, o⟩
      refine rw_seq (N := fun ρ' => ∃ b, ρ' = [.gen g5, .dat (.str z), .dat (fD rs es), .dat (.list (ms.map mD)), .dat (.str kept), .dat d, .dat (.bool b), .no, .no, .no, .no, .no, .no, .no] ∧ (b = true ↔ IsTalk rs d)) R6 ?_ (fun σ7 H7 ρ7 R7 k7 ⟨b, e7, hb⟩ => ?_)
      · refine (s_set (w_call (w_cons (w_var rfl (w_cons (w_var rfl (w_nil (⟨rfl, ⟨_, _, _, rfl, o, nd⟩, ?_⟩))))))))
        rintro d' ⟨rs', es', x, b, e, rfl, hb⟩
        simp only [List.cons.injEq, and_true] at e
        obtain ⟨e1, e2⟩ := e
        obtain ⟨e1, _⟩ := fD_inj e1
        subst e1
        subst e2
        exact ⟨plain_by rfl, ⟨g5, 0, rfl⟩, b, rfl, hb⟩
      subst e7
      have hfb : ∀ d', (∃ rs' es' x b', [fD rs es, d] = [fD rs' es', x] ∧ FormOk rs' es' ∧ d' = PyData.bool b' ∧ (b' = true ↔ IsTalk rs' x)) → d' = .bool b := by
        rintro d' ⟨rs', es', x, b', e, _, rfl, hb'⟩
        simp only [List.cons.injEq, and_true] at e
        obtain ⟨e1, e2⟩ := e
        obtain ⟨e1, _⟩ := fD_inj e1
        subst e1
        subst e2
        rw [Bool.eq_iff_iff.mpr (hb'.trans hb.symm)]
      have nbT : ∀ (C : Addr) (y : PyData), ¬ (C = CF ∧ ∃ f x, [fD rs es, d] = [f, x] ∧ ¬ IsForm f ∧ y = f) := fun C y ⟨_, f, x, e, h, _⟩ => h ((List.cons.inj e).1 ▸ isF)
      refine rw_seq (N := fun ρ' => ρ' = [.gen g5, .dat (.str z), .dat (fD rs es), .dat (.list (ms.map mD)), .dat (.str kept), .dat d, .dat (.bool b), .no, .no, .no, .no, .no, .no, .no]) R7 ?_ (fun σ8 H8 ρ8 R8 k8 e8 => ?_)
      · refine (s_if (w_or (w_test (w_op (w_callB (w_cons (w_callR (w_cons (w_var rfl (w_cons (w_var rfl (w_nil (⟨rfl, ⟨_, _, rfl, cF0.nz, nd⟩, nbT, fun d' hd' => ?_⟩)))))))))))))
        rw [hfb d' hd']
        refine (w_nil (c_reprN (Nz.bool (b := true)) (w_callB (w_cons (w_var rfl (w_nil (c_reprN (Nz.bool (b := true)) (o_neS ⟨_, rfl, ?_⟩))))))))
        rw [decide_eq_true rfl]
        refine iteF (w_test (w_op (w_callB (w_cons (w_defK (w_cons (w_var rfl (w_cons (w_var rfl (w_nil (⟨rfl, rfl, ⟨_, _, rfl, cF0.nz, nd⟩, nbT, fun d' hd' => ?_⟩)))))))))))
        rw [hfb d' hd']
        refine (w_nil (c_reprN (Nz.bool (b := true)) (w_callB (w_cons (w_var rfl (w_nil (c_reprN (Nz.bool (b := true)) (o_neS ⟨_, rfl, ?_⟩))))))))
        rw [decide_eq_true rfl]
        exact iteF (s_next ⟨plain_by rfl, ⟨g5, 0, rfl⟩, rfl⟩)
      subst e8
      cases b with
      | true =>
        obtain ⟨ms2, rfl, hms2⟩ := hb.mp rfl
        have hW : ∀ d', (∃ (rs' : List (Str × Str × Str)) (es' : List (Nat × Str)) (ms' : List (Str × Str)), [fD rs es, .list (ms2.map mD)] = [fD rs' es', .list (ms'.map mD)] ∧ d' = PyData.str (wrT rs' es' ms')) → d' = .str (wrT rs es ms2) := by
          rintro d' ⟨rs', es', ms', e, rfl⟩
          simp only [List.cons.injEq, and_true, PyData.list.injEq] at e
          obtain ⟨e1, e2⟩ := e
          obtain ⟨e1, e3⟩ := fD_inj e1
          have e2 := map_inj mD_inj e2
          subst e1
          subst e2
          subst e3
          rfl
        have wok := (wrT_ok o hms2).lt
        have wsm := wrT_small o hms2 cd
        refine rw_seq (N := fun ρ' => ρ' = [.gen g5, .dat (.str z), .dat (fD rs es), .dat (.list (ms.map mD)), .dat (.str kept), .dat (.list (ms2.map mD)), .dat (.bool true), .no, .no, .dat (.str (wrT rs es ms2)), .no, .no, .no, .no]) R8 ?_ (fun σ9 H9 ρ9 R9 k9 e9 => ?_)
        · refine (s_set (w_if (w_tB (w_var rfl (⟨_, rfl, iteT ?_⟩)))))
          refine (w_call (w_cons (w_var rfl (w_cons (w_var rfl (w_nil (⟨rfl, ⟨_, _, _, rfl, o, hms2, nd⟩, fun d' hd' => ?_⟩)))))))
          rw [hW d' hd']
          exact ⟨plain_by rfl, ⟨g5, 0, rfl⟩, rfl⟩
        subst e9
        refine rw_seq (N := fun ρ' => ρ' = [.gen g5, .dat (.str z), .dat (fD rs es), .dat (.list (ms.map mD)), .dat (.str kept), .dat (.list (ms2.map mD)), .dat (.bool true), .no, .no, .dat (.str (wrT rs es ms2)), .dat (.str (wrT rs es ms2)), .no, .no, .no]) R9 ?_ (fun σ10 H10 ρ10 R10 k10 e10 => ?_)
        · refine (s_set (w_if (w_tB (w_var rfl (⟨_, rfl, iteT ?_⟩)))))
          refine (w_callR (w_cons (w_var rfl (w_cons (w_var rfl (w_nil (⟨rfl, ⟨_, _, rfl, cF0.nz, nd⟩, fun C y hbad => ?_, fun d' hd' => ?_⟩)))))))
          · rcases hbad with ⟨_, f', x', e, h, _⟩ | ⟨_, rs', es', x', e, o', h, _⟩
            · exact h ((List.cons.inj e).1 ▸ isF)
            · simp only [List.cons.injEq, and_true] at e
              obtain ⟨e1, e2⟩ := e
              obtain ⟨e1, e3⟩ := fD_inj e1
              subst e1
              exact h (e2 ▸ ⟨ms2, rfl, hms2⟩)
          obtain ⟨rs', es', ms', e, _, _, ed⟩ := hd'
          rw [hW d' ⟨rs', es', ms', e, ed⟩]
          exact ⟨plain_by rfl, ⟨g5, 0, rfl⟩, rfl⟩
        subst e10
        refine rw_step (N := fun ρ' => ρ' = [.gen g5, .dat (.str z), .dat (fD rs es), .dat (.list (ms.map mD)), .dat (.str kept), .dat (.list (ms2.map mD)), .dat (.bool true), .no, .no, .dat (.str (wrT rs es ms2)), .dat (.str (wrT rs es ms2)), .no, .no, .no]) (Rt := fun _ _ => False) R10 ?_ (fun σ11 H11 ρ11 R11 k11 e11 => ?_) (fun _ _ _ _ _ z => z.elim)
        · refine (s_if (w_test (w_op (w_callB (w_cons (w_var rfl (w_nil (c_reprS wok wsm (w_callB (w_cons (w_var rfl (w_nil (c_reprS wok wsm (o_neS ⟨_, rfl, ?_⟩))))))))))))))
          rw [decide_eq_true rfl]
          exact iteF (s_next ⟨plain_by rfl, ⟨g5, 0, rfl⟩, rfl⟩)
        subst e11
        exact ⟨_, rw_forget (rw_forget (rw_forget (rw_forget R11 5) 6) 9) 10, (((k7.trans k8).trans k9).trans k10).trans k11, rfl⟩
      | false =>
        have nt2 : ¬ IsTalk rs d := fun h => nomatch hb.mpr h
        have nzr : Nz true (.list [.str (kName 6), d]) := nz_pair (Cl.lit (by decide)) cd
        refine rw_seq (N := fun ρ' => ρ' = [.gen g5, .dat (.str z), .dat (fD rs es), .dat (.list (ms.map mD)), .dat (.str kept), .dat d, .dat (.bool false), .no, .no, .dat (.list [.str (kName 6), d]), .no, .no, .no, .no]) R8 ?_ (fun σ9 H9 ρ9 R9 k9 e9 => ?_)
        · refine (s_set (w_if (w_tB (w_var rfl (⟨_, rfl, iteF ?_⟩)))))
          refine (w_lst (w_cons (w_str (w_cons (w_var rfl (w_nil (⟨(show (2 : Nat) ≤ sizeLine by decide), plain_by rfl, ⟨g5, 0, rfl⟩, rfl⟩)))))))
        subst e9
        obtain ⟨G9, ok9, _⟩ := id R9
        obtain ⟨s6, h6, v6, e6, dv6⟩ := ok9.slot (i := 6) rfl
        have e6' := dv6.bl'
        subst e6'
        subst e6
        clear ok9
        refine ⟨.bl false, h6, false, rfl, iteF ?_⟩
        refine refused_e (n := 6) (d := d) (C := CT) (t := fun E => L2.tCallN 0 2 (sp_written_talk CF CT) (fun _ zs => zs.reverse) E tNil (tCons (tVar 5) (tCons (tVar 2) tNil))) R9 keT (lamS_by (sc := defScope s_law_right) (by decide +kernel)) (fun _ _ _ => rfl)
          (fun f c' A outer s H E hr => by exact pe_defK (ps := ["form", "talk"]) (E := E) dk_written_talk hr (by decide) (passes_call (takes_of rfl rfl rfl rfl) fun _ _ _ _ h => h) (pk_cons (pv 5) (pk_cons (pv 2) pk_nil)))
          (hRsK (di := d) (dj := fD rs es) rfl rfl ⟨_, _, rfl, cF0.nz, nd⟩ (fun d' => ?_) (fun C' x => ?_)) (fun x G' H' R' k' ex dv => ?_)
        · rintro ⟨rs', es', ms', e, o', hm', _⟩
          simp only [List.cons.injEq, and_true] at e
          obtain ⟨e1, e2⟩ := e
          obtain ⟨e1, _⟩ := fD_inj e1
          subst e1
          exact nt2 ⟨ms', e2, hm'⟩
        · rintro (⟨_, f', x', e, h, _⟩ | ⟨rfl, rs', es', x', e, o', _, rfl⟩)
          · exact absurd isF (by rw [(List.cons.inj e).1]; exact h)
          · simp only [List.cons.injEq, and_true] at e
            exact ⟨rfl, e.2.symm⟩
        have h10 : (σ9.set 10 (some x))[10]? = some (some x) := by rw [List.getElem?_set_self (by rw [R9.len]; exact (show 10 < 14 by decide))]
        refine g_at ?_
        refine (shown_if (ρ := [.gen g5, .dat (.str z), .dat (fD rs es), .dat (.list (ms.map mD)), .dat (.str kept), .dat d, .dat (.bool false), .no, .no, .dat (.list [.str (kName 6), d]), .no, .no, .no, .no]) nzr (fun Q hQ => ⟨x, h10, hQ x G' H' (rw_setN R' rfl) (KeepN.refl _ _) ex dv⟩) ⟨g5, 0, rfl⟩ ?_ (fun H2 R2 k2 => ?_))
        · refine (w_callB (w_cons (w_var rfl (w_nil (c_reprN nzr ⟨rfl, rfl⟩)))))
        · exact ⟨_, rw_forget (rw_forget (rw_forget R2 5) 6) 9, (((k7.trans k8).trans k9).trans k').trans k2, rfl⟩
  · subst i5
    subst e5
    have cd : Cl false 4 d := ad _ (List.mem_of_getElem? hd)
    have nd : Nz false d := cd.nz
    refine rw_seq (N := fun ρ' => ∃ b, ρ' = [.gen g4, .dat (.str z), .dat (fD rs es), .dat (.list (ms.map mD)), .dat (.str kept), .dat d, .dat (.bool b), .no, .no, .no, .no, .no, .no, .no] ∧ (b = true ↔ IsForm d)) R5 ?_ (fun σ6 H6 ρ6 R6 k6 ⟨b, e6, hb⟩ => ?_)
    · refine (s_set (w_call (w_cons (w_var rfl (w_nil (⟨rfl, ⟨_, rfl, nd⟩, ?_⟩))))))
      rintro d' ⟨x, b, e, rfl, hb⟩
      cases e
      exact ⟨plain_by rfl, ⟨g4, 0, rfl⟩, b, rfl, hb⟩
    subst e6
    have hfb : ∀ d', (∃ x b', [d] = [x] ∧ d' = PyData.bool b' ∧ (b' = true ↔ IsForm x)) → d' = .bool b := by
      rintro d' ⟨x, b', e, rfl, hb'⟩
      cases e
      rw [Bool.eq_iff_iff.mpr (hb'.trans hb.symm)]
    refine rw_seq (N := fun ρ' => ρ' = [.gen g4, .dat (.str z), .dat (fD rs es), .dat (.list (ms.map mD)), .dat (.str kept), .dat d, .dat (.bool b), .no, .no, .no, .no, .no, .no, .no]) R6 ?_ (fun σ7 H7 ρ7 R7 k7 e7 => ?_)
    · refine (s_if (w_or (w_test (w_op (w_callB (w_cons (w_call (w_cons (w_var rfl (w_nil (⟨rfl, ⟨_, rfl, nd⟩, fun d' hd' => ?_⟩)))))))))))
      rw [hfb d' hd']
      refine (w_nil (c_reprN (Nz.bool (b := true)) (w_callB (w_cons (w_var rfl (w_nil (c_reprN (Nz.bool (b := true)) (o_neS ⟨_, rfl, ?_⟩))))))))
      rw [decide_eq_true rfl]
      refine iteF (w_test (w_op (w_callB (w_cons (w_defKD (w_cons (w_var rfl (w_nil (⟨rfl, rfl, ⟨_, rfl, nd⟩, fun d' hd' => ?_⟩)))))))))
      rw [hfb d' hd']
      refine (w_nil (c_reprN (Nz.bool (b := true)) (w_callB (w_cons (w_var rfl (w_nil (c_reprN (Nz.bool (b := true)) (o_neS ⟨_, rfl, ?_⟩))))))))
      rw [decide_eq_true rfl]
      exact iteF (s_next ⟨plain_by rfl, ⟨g4, 0, rfl⟩, rfl⟩)
    subst e7
    refine calls3 (i := 7) R7 rfl (show 7 < 14 by decide) fun f1 f2 f3 p H8 R8 k8 hp h7 l1 l2 l3 => ?_
    have hpg : p ≠ γ := fun q => by
      have hg8 := R8.gen (i := 0) rfl
      rw [← q, hp] at hg8
      simp [genV] at hg8
    obtain ⟨G8, ok8, _⟩ := id R8
    obtain ⟨s6, h6, v6, e6, dv6⟩ := ok8.slot (i := 6) rfl
    have e6' := dv6.bl'
    subst e6'
    subst e6
    clear ok8
    refine rw_forR (i := 8) (N := fun xs _ => (b = false ∧ xs = [.ref f1, .ref f2, .ref f3]) ∨ xs = []) R8 rfl (fun Q hQ => ?_) (fun σ9 H9 R9 k9 => ⟨_, rw_forget (rw_forget R9 5) 6, ((k6.trans k7).trans k8).trans k9, rfl⟩) (fun xs H9 m v σ9 H10 hxs k9 k10 R9 hv R10 h8 => ?_)
    · refine ⟨.bl b, h6, b, rfl, ?_⟩
      cases b with
      | false =>
        refine iteT ?_
        exact ⟨.ref p, h7, hQ p _ H8 R8 (KeepN.refl _ _) hp hpg (.inl ⟨rfl, rfl⟩)⟩
      | true =>
        refine iteF ?_
        refine ⟨(show (0 : Nat) ≤ sizeLine by decide), fun q hq => ?_⟩
        have xq : Ex H8 (upd H8 q (.lst [])) := ex_upd hq
        refine hQ q [] _ (rw_ext R8 (ExtN.of xq) (tabs_ex R8.tabs xq)) (KeepN.of (ExtN.of xq)) upd_same (fun y => ?_) (.inr rfl)
        have hg8 := R8.gen (i := 0) rfl
        rw [← y, hq] at hg8
        cases hg8
    · rcases hxs with ⟨rfl, rfl⟩ | rfl
      · have nf : ¬ IsForm d := fun h => nomatch hb.mpr h
        have nzr : Nz false (.list [.str (kName 1), d]) := nz_pair (Cl.lit (by decide)) cd
        have pF : ∀ (rs' : List (Str × Str × Str)) (es' : List (Nat × Str)) (x y : PyData), [d, x] = [fD rs' es', y] → FormOk rs' es' → False := fun rs' es' x y e o' => nf ⟨rs', es', (List.cons.inj e).1, o'⟩
        have w2 : wE (tCB rReprE (tCons (tLst (tCons (tC (.str "InvalidForm")) (tCons (tVar 5) tNil))) tNil)) [.gen g4, .dat (.str z), .dat (fD rs es), .dat (.list (ms.map mD)), .dat (.str kept), .dat d, .dat (.bool false), .no, .no, .no, .no, .no, .no, .no] fun d' ρ1 => d' = .str (PyData.list [.str (kName 1), d]).shown ∧ ρ1 = [.gen g4, .dat (.str z), .dat (fD rs es), .dat (.list (ms.map mD)), .dat (.str kept), .dat d, .dat (.bool false), .no, .no, .no, .no, .no, .no, .no] := by
          refine (w_callB (w_cons (w_lst (w_cons (w_str (w_cons (w_var rfl (w_nil (⟨(show (2 : Nat) ≤ sizeLine by decide), w_nil (c_reprN nzr ⟨rfl, rfl⟩)⟩)))))))))
        match m, hv with
        | 0, hv =>
          cases hv
          refine shown_if nzr (fun Q hQ => refused_v (i := 8) (n := 1) (t := fun E => tCall (sp_is_talk CF) [] E (tCons (tVar 5) (tCons (tVar 3) tNil))) R10 h8 (l1.keepN R8.gam (k9.trans k10)) keF (lamS_by (sc := defScope s_law_right) (by decide +kernel)) (fun _ _ _ => rfl)
            (fun f c' A outer s H E hr => pe_def (E := E) d_is_talk hr (by decide) (passes_call (takes_of rfl rfl rfl rfl) fun _ _ _ _ h => h) (pa_cons (pv 5) (pa_cons (pv 3) pa_nil)))
            (hRs2 (di := d) (dj := .list (ms.map mD)) rfl rfl ⟨_, _, rfl, nd, cT.nz⟩ (fun d' => ?_) (fun C' x => ?_)) hQ) ⟨g4, 0, rfl⟩ w2 (fun H' R' k' => ⟨R', k'⟩)
          · rintro ⟨rs', es', x', b', e, o', _⟩
            exact pF _ _ _ _ e o'
          · rintro ⟨rfl, f', x', e, _, rfl⟩
            exact ⟨rfl, (List.cons.inj e).1.symm⟩
        | 1, hv =>
          cases hv
          refine shown_if nzr (fun Q hQ => refused_v (i := 8) (n := 1) (t := fun E => tCall (sp_written_talk CF CT) [] E (tCons (tVar 5) (tCons (tC .non) tNil))) R10 h8 (l2.keepN R8.gam (k9.trans k10)) keF (lamS_by (sc := defScope s_law_right) (by decide +kernel)) (fun _ _ _ => rfl)
            (fun f c' A outer s H E hr => pe_def (E := E) d_written_talk hr (by decide) (passes_call (takes_of rfl rfl rfl rfl) fun _ _ _ _ h => h) (pa_cons (pv 5) (pa_cons pe_non pa_nil)))
            (hRsN (di := d) rfl ⟨_, _, rfl, nd, Cl.nz (n := 0) Cl.non⟩ (fun d' => ?_) (fun C' x => ?_)) hQ) ⟨g4, 0, rfl⟩ w2 (fun H' R' k' => ⟨R', k'⟩)
          · rintro ⟨rs', es', ms', e, o', _⟩
            exact pF _ _ _ _ e o'
          · rintro (⟨rfl, f', x', e, _, rfl⟩ | ⟨_, rs', es', x', e, o', _⟩)
            · exact ⟨rfl, (List.cons.inj e).1.symm⟩
            · exact (pF _ _ _ _ e o').elim
        | 2, hv =>
          cases hv
          refine shown_if nzr (fun Q hQ => refused_v (i := 8) (n := 1) (t := fun E => tCall (sp_escaped CF CX) [] E (tCons (tVar 5) (tCons (tC .non) tNil))) R10 h8 (l3.keepN R8.gam (k9.trans k10)) keF (lamS_by (sc := defScope s_law_right) (by decide +kernel)) (fun _ _ _ => rfl)
            (fun f c' A outer s H E hr => pe_def (E := E) d_escaped hr (by decide) (passes_call (takes_of rfl rfl rfl rfl) fun _ _ _ _ h => h) (pa_cons (pv 5) (pa_cons pe_non pa_nil)))
            (hRsN (di := d) rfl ⟨_, _, rfl, nd, Cl.nz (n := 0) Cl.non⟩ (fun d' => ?_) (fun C' x => ?_)) hQ) ⟨g4, 0, rfl⟩ w2 (fun H' R' k' => ⟨R', k'⟩)
          · rintro ⟨rs', es', z', e, o', _⟩
            exact pF _ _ _ _ e o'
          · rintro (⟨rfl, f', x', e, _, rfl⟩ | ⟨_, rs', es', x', e, o', _⟩)
            · exact ⟨rfl, (List.cons.inj e).1.symm⟩
            · exact (pF _ _ _ _ e o').elim
        | m + 3, hv => simp at hv
      · simp at hv
end
end K81


namespace K81
open PySem PySem.Spec PyProof.Rows L2 DL ErX ClX LamX
open Evl (Ex)
local macro_rules | `(tactic| walk_at "sz") => `(tactic| first | assumption | (rw [sizeLine_eq]; simp only [List.length_cons, List.length_nil, List.length_append, List.length_map, List.length_replicate, List.length_range]; omega) | (rw [sizeLine_eq]; simp; done) | (rw [sizeLine_eq]; simp; omega) | omega)
local macro_rules | `(tactic| walk_at "sh") => `(tactic| first | assumption | exact shaped_int _ | rfl | (exact ty_shaped (by assumption)) | (decide +kernel))
local macro_rules | `(tactic| walk_at "w") => `(tactic| first
  | ((with_reducible refine' w_var ?hv ?_); (case hv => rfl))
  | (with_reducible refine s_seq ?_)
  | (with_reducible refine s_set ?_)
  | (with_reducible refine s_ret ?_)
  | (with_reducible refine s_if ?_)
  | (with_reducible refine s_next ?_)
  | (with_reducible refine x_seq ?_)
  | (with_reducible refine x_if ?_)
  | ((with_reducible refine' w_isi ?_ ?_); decide)
  | (with_reducible refine w_callB ?_)
  | (with_reducible refine w_op ?_)
  | (with_reducible refine w_cons ?_)
  | (with_reducible refine w_nil ?_)
  | (with_reducible refine w_int ?_)
  | (with_reducible refine w_str ?_)
  | (with_reducible refine w_bl ?_)
  | (with_reducible refine w_non ?_)
  | (with_reducible refine w_test ?_)
  | (with_reducible refine w_tB ?_)
  | (with_reducible refine w_and ?_)
  | (with_reducible refine w_or ?_)
  | (with_reducible refine w_not ?_)
  | (with_reducible refine w_andV ?_)
  | (with_reducible refine w_orV ?_)
  | (with_reducible refine w_notV ?_)
  | (with_reducible refine w_if ?_)
  | ((with_reducible refine' w_chain ?hh ?hv); (case hv => rfl))
  | (with_reducible refine w_lst ?_)
  | (with_reducible refine w_tup ?_)
  | (with_reducible refine w_dnew ?_)
  | (with_reducible refine o_addI ?_)
  | (with_reducible refine o_subI ?_)
  | (with_reducible refine o_ltI ?_)
  | (with_reducible refine o_leI ?_)
  | (with_reducible refine o_gtI ?_)
  | (with_reducible refine o_geI ?_)
  | (with_reducible refine o_ltS ?_)
  | (with_reducible refine o_leS ?_)
  | (with_reducible refine o_gtS ?_)
  | (with_reducible refine o_geS ?_)
  | (with_reducible refine o_eqS ?_)
  | (with_reducible refine o_neS ?_)
  | (with_reducible refine o_isN ?_)
  | (with_reducible refine o_notN ?_)
  | (with_reducible refine o_isB ?_)
  | (with_reducible refine c_lenL ?_)
  | (with_reducible refine c_lenT ?_)
  | (with_reducible refine c_int ?_)
  | (with_reducible refine c_intB ?_)
  | (with_reducible refine c_ord ?_)
  | (with_reducible refine c_tupL ?_)
  | (with_reducible refine c_listL ?_)
  | (with_reducible refine c_listT ?_)
  | ((with_reducible refine o_eq ?_ ?_ ?_); (walk_at "sh"); (walk_at "sh"))
  | ((with_reducible refine o_ne ?_ ?_ ?_); (walk_at "sh"); (walk_at "sh"))
  | ((with_reducible refine' o_ixL ?hv ?_); (case hv => rfl))
  | ((with_reducible refine' o_ixT ?hv ?_); (case hv => rfl))
  | ((with_reducible refine o_modI ?_ ?_); (walk_at "sz"))
  | ((with_reducible refine o_addL ?_ ?_); (walk_at "sz"))
  | ((with_reducible refine o_addS ?_ ?_); (walk_at "sz"))
  | ((with_reducible refine o_addT ?_ ?_); (walk_at "sz"))
  | ((with_reducible refine c_lenS ?_ ?_); (walk_at "sz"))
  | refine iteT ?_
  | refine iteF ?_
  | refine And.intro (show _ ≤ sizeLine by walk_at "sz") ?_
  | refine ⟨_, rfl, ?_⟩
  | (refine' o_ixT ?hv ?_; (case hv => rfl))
  | (refine' o_ixL ?hv ?_; (case hv => rfl))
  | refine w_call ?_
  | refine w_callR ?_)
local macro_rules | `(tactic| walk_at "ws") => `(tactic| repeat walk_at "w")

section
variable {P : Program} {w : World} {K : PySem.W.Frag} {mg : Str → Option Value} {base : Heap} {CF CX CT SE CB CL CN CP CR c tab : Addr} {Tb : List (Addr × Str)}
def sp_law (K : PySem.W.Frag) (Tb : List (Addr × Str)) : Sp := fun vs H Q _ => ∃ (a : Addr) (ns : List Int), vs = [.ref a] ∧ Tabs Tb H ∧ SqL K H a (ns.map V.int) ∧ ns.length ≤ 1000 ∧ ∀ H', Q (.bl true) H'
theorem tabs_start {q : Str} {H : Hp} (h : H tab = some (.tbl #[])) : Tabs [(tab, q)] H := fun p hp => by
  rw [List.mem_singleton.mp hp]
  exact ⟨#[], h, trivial, fun pos cv hc => by simp [codeAmong] at hc⟩
def rsL : List (Str × Str × Str) := [("user", "<|", "|>"), ("tool", "{", "}")]
def esL : List (Nat × Str) := [(10, " "), (60, "&lt")]
def msL : List (Str × Str) := [("tool", ""), ("user", "a<b\n<")]
theorem formL : FormOk rsL esL := by
  refine ⟨by decide, by decide, by decide, fun r hr => ?_, fun e he => ?_, by decide, by decide⟩
  · unfold rsL at hr
    simp only [List.mem_cons, List.not_mem_nil, or_false] at hr
    rcases hr with rfl | rfl <;> (unfold RoleOk IsName Sh AllC; decide)
  · unfold esL at he
    simp only [List.mem_cons, List.not_mem_nil, or_false] at he
    rcases he with rfl | rfl <;> (unfold EscOk Sh AllC; decide)
theorem msgsL : ∀ m ∈ msL, MsgOk rsL m := fun m hm => by
  unfold msL at hm
  simp only [List.mem_cons, List.not_mem_nil, or_false] at hm
  rcases hm with rfl | rfl <;> (unfold MsgOk rsL AllC; decide)
theorem wrL : wrT rsL esL msL = "{}<|a&ltb &lt|>" := by decide +kernel
theorem outL : outT esL "<>" = "&lt>" := by decide +kernel
abbrev s_law : Stmt := top 55
theorem sc_law : FnScope ["script", "index", "form", "talk"] ["script"] (defScope s_law) := ⟨rfl, rfl, rfl, by decide +kernel, rfl, by decide +kernel, by decide +kernel⟩
theorem d_law (T : Bl mg) (F : FunAt K mg "law" s_law)  (d_law_generator : Df P w K mg base CX0 2 "_law_generator" ["script", "index"] [] (sp_law_generator K)) (d_law_right : DfG P w K mg base 11 "_law_right" ["generator"] (sp_law_right Tb)) (d_escaped : Df P w K mg base (L2.CX P w) 7 "escaped" ["form", "text"] [] (sp_escaped CF CX)) (d_is_talk : Df P w K mg base (L2.CX P w) 7 "is_talk" ["form", "value"] [] (sp_is_talk CF)) (d_written_talk : Df P w K mg base (L2.CX P w) 7 "written_talk" ["form", "talk"] [] (sp_written_talk CF CT)) : DfG P w K mg base 12 "law" ["script"] (sp_law K Tb) := by
  refine dfg_of F sc_law (fun vs H Q E ⟨a, ns, e, _⟩ => by rw [e]; rfl) (fun _ _ _ _ _ _ _ us hl => match us, hl with | [_], _ => rfl) fun f cdv A outer s H E hgd hr => ?_
  refine ⟨_, (pss_cons (ps_for (passes_of rfl) rfl (pi_range1 (by rfl) T.range_ (pa_cons pe_int pa_nil)) (pg_name (i := 1) sc_law.nd rfl (Or.inl rfl)) (pss_one (ps_if (pt_not (pt_val (pe_defG d_law_right hgd hr (by decide) (pa_cons (pe_def (E := E0) d_law_generator hr (by decide) pass0 (pa_cons (pv 0) (pa_cons (pv 1) pa_nil))) pa_nil)))) (pss_one (ps_ret pe_bl)) pss_nil))) (pss_cons (ps_set (i := 2) sc_law.nd rfl (Or.inl rfl) (pe_tup (pa_cons pe_str (pa_cons (pe_lst (pa_cons (pe_tup (pa_cons pe_str (pa_cons pe_str (pa_cons pe_str pa_nil)))) (pa_cons (pe_tup (pa_cons pe_str (pa_cons pe_str (pa_cons pe_str pa_nil)))) pa_nil))) (pa_cons (pe_lst (pa_cons (pe_tup (pa_cons pe_str (pa_cons pe_str pa_nil))) (pa_cons (pe_tup (pa_cons pe_str (pa_cons pe_str pa_nil))) pa_nil))) pa_nil))))) (pss_cons (ps_set (i := 3) sc_law.nd rfl (Or.inl rfl) (pe_lst (pa_cons (pe_tup (pa_cons pe_str (pa_cons pe_str pa_nil))) (pa_cons (pe_tup (pa_cons pe_str (pa_cons pe_str pa_nil))) pa_nil)))) (pss_one (ps_ret (pe_and (pe_cmpR (op_eqX hr.units) (pe_def (E := E0) d_written_talk hr (by decide) passL (pa_cons (pv 2) (pa_cons (pv 3) pa_nil))) pe_str (nomark _)) (pe_and (pe_cmpR (op_eqX hr.units) (pe_def (E := E0) d_escaped hr (by decide) passL (pa_cons (pv 2) (pa_cons pe_str pa_nil))) pe_str (nomark _)) (pe_one (pe_cmpR op_isBl (pe_def (E := E0) d_is_talk hr (by decide) passL (pa_cons (pv 2) (pa_cons (pe_lst (pa_cons (pe_tup (pa_cons pe_str (pa_cons pe_str pa_nil))) pa_nil)) pa_nil))) pe_bl (nomark _)))))))))), fun vs Q h => ?_⟩
  obtain ⟨a, ns, rfl, ht, hs, hn, hq⟩ := h
  have nT : NoTbl (fun _ => none) := fun _ _ z => nomatch z
  refine ⟨2, rfl, by decide, by decide, for_range (n := 2) (fun i σ H => σ.length = 4 ∧ σ[0]? = some (some (.ref a)) ∧ Tabs Tb H ∧ SqL K H a (ns.map V.int)) ⟨rfl, rfl, ht, hs⟩ (fun i σ H hi ⟨h1, h2, h3, h4⟩ => ?_) fun σ H ⟨h1, h2, h3, h4⟩ => ?_⟩
  · unfold gName tIfS tNot tB
    refine ⟨.ref a, by rw [List.getElem?_set_ne (by decide)]; exact h2, .int (0 + i), by rw [List.getElem?_set_self (by omega)], ?_⟩
    refine ⟨a, ns, i, by rw [Int.zero_add]; rfl, h4, hn, by omega, fun p g H' e1 e2 e3 e4 => ?_⟩
    refine ⟨p, g, fun _ => none, rfl, (fun _ _ z => nomatch z), rfl, e3, nT, tabs_ex h3 e1, e4.le (by decide), fun H2 t2 k2 => ⟨true, rfl, ?_⟩⟩
    refine ⟨by rw [List.length_set]; exact h1, by rw [List.getElem?_set_ne (by decide)]; exact h2, t2, ?_⟩
    rcases h4 with h4 | h4
    · refine .inl ?_
      have ap : ∀ o, H a = some o → a ≠ p := fun o z y => by rw [y, e2] at z; cases z
      rcases h4 with h4 | ⟨o, h4⟩
      · exact .inl (k2 a _ (e1 _ _ h4) (ap _ h4) fun _ z => nomatch z)
      · exact .inr ⟨o, k2 a _ (e1 _ _ h4) (ap _ h4) fun _ z => nomatch z⟩
    · exact .inr h4
  have ok : DL.Ok ⟨none, fun _ => none, H⟩ (fun _ => none) H σ [.no, .no, .no, .no] := ⟨Ex.refl _, (fun _ _ h => nomatch h), (fun _ _ h => nomatch h), fun _ _ h _ => h, (fun _ z => nomatch z), h1, fun i e s he _ => (match i, he with
    | 0, he => by cases he; trivial
    | 1, he => by cases he; trivial
    | 2, he => by cases he; trivial
    | 3, he => by cases he; trivial), fun i j di dj a hi => (match i, hi with
    | 0, hi => by cases hi
    | 1, hi => by cases hi
    | 2, hi => by cases hi
    | 3, hi => by cases hi)⟩
  dsimp only
  refine (show wS _ [.no, .no, .no, .no] ⟨fun _ => False, fun d' _ => d' = .bool true, fun _ => False, fun _ => False⟩ from ?_) ⟨none, fun _ => none, H⟩ (fun _ => none) H σ ok _ ⟨fun _ _ _ _ _ _ z => z.elim, fun v' G2 H2 σ2 ρ2 d2 k2 x2 e2 dv2 => ?_, fun _ _ _ _ _ _ z => z.elim, fun _ _ _ _ _ _ z => z.elim⟩
  · have z1 : (1 : Nat) ≤ sizeLine := by decide
    have z2 : (2 : Nat) ≤ sizeLine := by decide
    have z3 : (3 : Nat) ≤ sizeLine := by decide
    have isF : IsForm (fD rsL esL) := ⟨rsL, esL, rfl, formL⟩
    have nF : Nz false (fD rsL esL) := ⟨by decide +kernel, by decide +kernel, by decide +kernel⟩
    have nM : Nz true (.list (msL.map mD)) := ⟨by decide +kernel, by decide +kernel, by decide +kernel⟩
    refine (s_seq (s_set (w_tup (w_cons (w_str (w_cons (w_lst (w_cons (w_tup (w_cons (w_str (w_cons (w_str (w_cons (w_str (w_nil ⟨z3, ?_⟩))))))))))))))))
    refine (w_cons (w_tup (w_cons (w_str (w_cons (w_str (w_cons (w_str (w_nil ⟨z3, w_nil ⟨z2, ?_⟩⟩)))))))))
    refine (w_cons (w_lst (w_cons (w_tup (w_cons (w_str (w_cons (w_str (w_nil ⟨z2, ?_⟩)))))))))
    refine (w_cons (w_tup (w_cons (w_str (w_cons (w_str (w_nil ⟨z2, w_nil ⟨z2, w_nil ⟨z3, ?_⟩⟩⟩)))))))
    refine (s_seq (s_set (w_lst (w_cons (w_tup (w_cons (w_str (w_cons (w_str (w_nil ⟨z2, ?_⟩))))))))))
    refine (w_cons (w_tup (w_cons (w_str (w_cons (w_str (w_nil ⟨z2, w_nil ⟨z2, ?_⟩⟩)))))))
    show wS _ [.no, .no, .dat (fD rsL esL), .dat (.list (msL.map mD))] _
    refine (s_ret (w_andV (w_op (w_callR (w_cons (w_var rfl (w_cons (w_var rfl (w_nil ⟨rfl, ⟨_, _, rfl, nF, nM⟩, fun C y hbad => ?_, fun d' hd' => ?_⟩)))))))))
    · rcases hbad with ⟨_, f', x', e, h, _⟩ | ⟨_, rs', es', x', e, o', h, _⟩
      · exact h ((List.cons.inj e).1 ▸ isF)
      · simp only [List.cons.injEq, and_true] at e
        obtain ⟨e1, e2⟩ := e
        obtain ⟨e1, e3⟩ := fD_inj e1
        subst e1
        exact h (e2 ▸ ⟨msL, rfl, msgsL⟩)
    obtain ⟨rs', es', ms', e, _, _, rfl⟩ := hd'
    simp only [List.cons.injEq, and_true, PyData.list.injEq] at e
    obtain ⟨e1, e2⟩ := e
    obtain ⟨e1, e3⟩ := fD_inj e1
    have e2 := map_inj mD_inj e2
    subst e1
    subst e2
    subst e3
    rw [wrL]
    refine w_str (o_eq (by decide +kernel) (by decide +kernel) ⟨_, rfl, ?_⟩)
    rw [eqv_str, decide_eq_true rfl]
    refine iteT (w_andV (w_op (w_callR (w_cons (w_var rfl (w_cons (w_str (w_nil ⟨rfl, ⟨_, _, rfl, nF, Cl.nz (n := 0) (Cl.lit (by decide))⟩, fun C y hbad => ?_, fun d' hd' => ?_⟩))))))))
    · rcases hbad with ⟨_, f', x', e, h, _⟩ | ⟨_, rs', es', x', e, o', h, _⟩
      · exact h ((List.cons.inj e).1 ▸ isF)
      · simp only [List.cons.injEq, and_true] at e
        exact h (e.2 ▸ ⟨"<>", rfl, by unfold AllC; decide⟩)
    obtain ⟨rs', es', z', e, _, _, rfl⟩ := hd'
    simp only [List.cons.injEq, and_true, PyData.str.injEq] at e
    obtain ⟨e1, e2⟩ := e
    obtain ⟨e1, e3⟩ := fD_inj e1
    subst e2
    subst e3
    rw [outL]
    refine w_str (o_eq (by decide +kernel) (by decide +kernel) ⟨_, rfl, ?_⟩)
    rw [eqv_str, decide_eq_true rfl]
    have itL : IsTalk rsL (.list [.tuple [.str "user", .str ""]]) := ⟨[("user", "")], rfl, fun m hm => by
      rw [List.mem_singleton.mp hm]
      unfold MsgOk rsL AllC
      decide⟩
    refine iteT (w_op (w_callR (w_cons (w_var rfl (w_cons (w_lst (w_cons (w_tup (w_cons (w_str (w_cons (w_str (w_nil ⟨z2, w_nil ⟨z1, w_nil ⟨rfl, ⟨_, _, rfl, nF, ⟨by decide +kernel, by decide +kernel, by decide +kernel⟩⟩, fun C y hbad => ?_, fun d' hd' => ?_⟩⟩⟩)))))))))))))
    · obtain ⟨_, f', x', e, h, _⟩ := hbad
      exact h ((List.cons.inj e).1 ▸ isF)
    obtain ⟨rs', es', x', b, e, _, rfl, hb⟩ := hd'
    simp only [List.cons.injEq, and_true] at e
    obtain ⟨e1, e2⟩ := e
    obtain ⟨e1, e3⟩ := fD_inj e1
    subst e1
    subst e2
    have hb := hb.mpr itL
    subst hb
    exact w_bl (o_isB (by simp))
  · subst e2
    cases dv2
    exact hq _
end
end K81

namespace K81
open PySem PySem.Spec PyProof.Rows L2 DL ErX ClX LamX
section
variable {w : World} {K : PySem.W.Frag} {h : Heap} {mg : Str → Option Value} {CB CF CL CN CP CR CT CX SE c tab : Addr}
abbrev PR : Program := PySem.Challenge.pw_saidahead_k81_forms_and_talks
theorem lawG_all (T : Bl mg) (C : Cs mg) (R : Er PR K mg CF CX CT) (N : Kg mg CB CF CL CN CP CR CT CX) (keF : Ke K CB CF CL CN CP CR CT CX SE CF 1) (keT : Ke K CB CF CL CN CP CR CT CX SE CT 6) (keX : Ke K CB CF CL CN CP CR CT CX SE CX 7) (hse : mg "SaidError" = some (.ref SE)) (ht : h.get? tab = some tabO) (nt : K.lookup tab = none) (cd : PySem.W.CodeHd h c tab)
    (F_is_sign : FunAt K mg "is_sign" s_is_sign)
    (F_is_text : FunAt K mg "is_text" s_is_text)
    (F_is_short : FunAt K mg "is_short" s_is_short)
    (F_is_role : FunAt K mg "is_role" s_is_role)
    (F_is_escape : FunAt K mg "is_escape" s_is_escape)
    (F_is_form : FunAt K mg "is_form" s_is_form)
    (F_check_form : FunAt K mg "check_form" s_check_form)
    (F_check_text : FunAt K mg "check_text" s_check_text)
    (F_role_of : FunAt K mg "role_of" s_role_of)
    (F_is_message : FunAt K mg "is_message" s_is_message)
    (F_fits_talk : FunAt K mg "fits_talk" s_fits_talk)
    (F_is_talk : FunAt K mg "is_talk" s_is_talk)
    (F_check_talk : FunAt K mg "check_talk" s_check_talk)
    (F_escape_of : FunAt K mg "escape_of" s_escape_of)
    (F_led_out : FunAt K mg "led_out" s_led_out)
    (F_escaped : FunAt K mg "escaped" s_escaped)
    (F_writing : FunAt K mg "writing" s_writing)
    (F_written_talk : FunAt K mg "written_talk" s_written_talk)
    (F__law_hash : FunAt K mg "_law_hash" s_law_hash)
    (F__law_random : FunAt K mg "_law_random" s_law_random)
    (F__law_cell : FunAt K mg "_law_cell" s_law_cell)
    (F__law_generator : FunAt K mg "_law_generator" s_law_generator)
    (F__law_pick : FunAt K mg "_law_pick" s_law_pick)
    (F__law_drawn_order : FunAt K mg "_law_drawn_order" s_law_drawn_order)
    (F__law_text : FunAt K mg "_law_text" s_law_text)
    (F__law_name : FunAt K mg "_law_name" s_law_name)
    (F__law_of_escape : FunAt K mg "_law_of_escape" s_law_of_escape)
    (F__law_written : FunAt K mg "_law_written" s_law_written)
    (F__law_talk : FunAt K mg "_law_talk" s_law_talk)
    (F__law_form : FunAt K mg "_law_form" s_law_form)
    (F__law_is_text : FunAt K mg "_law_is_text" s_law_is_text)
    (F__law_is_form : FunAt K mg "_law_is_form" s_law_is_form)
    (F__law_is_talk : FunAt K mg "_law_is_talk" s_law_is_talk)
    (F__law_bent_talks : FunAt K mg "_law_bent_talks" s_law_bent_talks)
    (F__law_bent_part : FunAt K mg "_law_bent_part" s_law_bent_part)
    (F__law_bent_forms : FunAt K mg "_law_bent_forms" s_law_bent_forms)
    (F__law_error : FunAt K mg "_law_error" s_law_error)
    (F__law_kinds : FunAt K mg "_law_kinds" s_law_kinds)
    (F__law_refused : FunAt K mg "_law_refused" s_law_refused)
    (F__law_right : FunAtC K mg "_law_right" s_law_right c)
    (F_law : FunAt K mg "law" s_law) : LawGS PySem.Challenge.rw_saidahead_k81_forms_and_talks w K 12 63 "law" "script" mg h := by
  refine ⟨c, tab, sp_law K [(tab, lamQ)], ht, nt, cd, fun H a ns hl hH hS => ⟨a, ns, rfl, tabs_start hH, hS, by omega, fun _ => rfl⟩, fun base Kb Gb TB SY => ?_⟩
  have p_is_sign := d_is_sign (P := PR) (w := w) (base := base) T F_is_sign
  have p_is_text := d_is_text (P := PR) (w := w) (base := base) T F_is_text p_is_sign
  have p_is_short := d_is_short (P := PR) (w := w) (base := base) T F_is_short p_is_text
  have p_is_role := d_is_role (P := PR) (w := w) (base := base) T C F_is_role p_is_short
  have p_is_escape := d_is_escape (P := PR) (w := w) (base := base) T F_is_escape p_is_short p_is_sign
  have p_is_form := d_is_form (P := PR) (w := w) (base := base) T C F_is_form p_is_escape p_is_role
  have p_check_form := d_check_form (P := PR) (w := w) (base := base) T R F_check_form p_is_form.1
  have p_check_text := d_check_text (P := PR) (w := w) (base := base) T R F_check_text p_is_text
  have p_role_of := d_role_of (P := PR) (w := w) (base := base) T F_role_of
  have p_is_message := d_is_message (P := PR) (w := w) (base := base) T F_is_message p_is_text p_role_of
  have p_fits_talk := d_fits_talk (P := PR) (w := w) (base := base) T F_fits_talk p_is_message
  have p_is_talk := d_is_talk (P := PR) (w := w) (base := base) T F_is_talk p_check_form p_fits_talk
  have p_check_talk := d_check_talk (P := PR) (w := w) (base := base) T R F_check_talk p_fits_talk
  have p_escape_of := d_escape_of (P := PR) (w := w) (base := base) T F_escape_of
  have p_led_out := d_led_out (P := PR) (w := w) (base := base) T F_led_out p_escape_of
  have p_escaped := d_escaped (P := PR) (w := w) (base := base) T F_escaped p_check_form p_check_text p_led_out
  have p_writing := d_writing (P := PR) (w := w) (base := base) T F_writing p_led_out p_role_of
  have p_written_talk := d_written_talk (P := PR) (w := w) (base := base) T F_written_talk p_check_form p_check_talk p_writing
  have p_law_hash := d_law_hash (P := PR) (w := w) (base := base) T F__law_hash
  have p_law_random := d_law_random (P := PR) (w := w) (base := base) T F__law_random p_law_hash
  have p_law_cell := d_law_cell (P := PR) (w := w) (base := base) T F__law_cell
  have p_law_generator := d_law_generator (P := PR) (w := w) (base := base) T F__law_generator p_law_cell
  have p_law_pick := d_law_pick (P := PR) (w := w) (base := base) T F__law_pick p_law_random
  have p_law_drawn_order := d_law_drawn_order (P := PR) (w := w) (base := base) T F__law_drawn_order p_law_random
  have p_law_text := d_law_text (P := PR) (w := w) (base := base) T F__law_text p_law_pick p_law_random
  have p_law_name := d_law_name (P := PR) (w := w) (base := base) T F__law_name p_law_pick p_law_random
  have p_law_of_escape := d_law_of_escape (P := PR) (w := w) (base := base) T F__law_of_escape
  have p_law_written := d_law_written (P := PR) (w := w) (base := base) T F__law_written p_law_of_escape
  have p_law_talk := d_law_talk (P := PR) (w := w) (base := base) T F__law_talk p_law_pick p_law_random p_law_text
  have p_law_form := d_law_form (P := PR) (w := w) (base := base) T F__law_form p_law_name p_law_random p_law_text
  have p_law_is_text := d_law_is_text (P := PR) (w := w) (base := base) T F__law_is_text
  have p_law_is_form := d_law_is_form (P := PR) (w := w) (base := base) T F__law_is_form p_law_is_text
  have p_law_is_talk := d_law_is_talk (P := PR) (w := w) (base := base) T F__law_is_talk p_law_is_text
  have p_law_bent_talks := d_law_bent_talks (P := PR) (w := w) (base := base) T F__law_bent_talks
  have p_law_bent_part := d_law_bent_part (P := PR) (w := w) (base := base) T F__law_bent_part p_law_pick p_law_random
  have p_law_bent_forms := d_law_bent_forms (P := PR) (w := w) (base := base) T F__law_bent_forms p_law_bent_part p_law_pick
  have p_law_error := d_law_error (P := PR) (w := w) (base := base) hse F__law_error
  have p_law_kinds := d_law_kinds (P := PR) (w := w) (base := base) (SE := SE) T F__law_kinds N
  have p_law_refused := d_law_refused (P := PR) (w := w) (base := base) F__law_refused p_law_error p_law_kinds
  have p_law_right := d_law_right (P := PR) (w := w) (base := base) (Tb := [(tab, lamQ)]) T F__law_right keF keT keX p_written_talk.2 TB (List.mem_singleton.mpr rfl) (fun p hp _ => by rw [List.mem_singleton.mp hp]) SY p_law_bent_forms p_law_bent_talks p_law_drawn_order p_law_form p_law_is_form p_law_is_talk p_law_of_escape p_law_pick p_law_refused p_law_talk p_law_text p_law_written p_escaped.1 p_escaped.2 p_is_form.1 p_is_form.2 p_is_talk.1 p_is_talk.2 p_written_talk.1
  have p_law := d_law (P := PR) (w := w) (base := base) T F_law p_law_generator p_law_right p_escaped.1 p_is_talk.1 p_written_talk.1
  exact p_law
end
end K81
open PySem PySem.W PyProof.Rows
set_option maxRecDepth 100000 in
set_option maxHeartbeats 0 in
theorem PySem.Challenge.cw_saidahead_k81_forms_and_talks_holds : PySem.Challenge.rw_saidahead_k81_forms_and_talks.Holds := by
  w_on; o_law; k_head; (case hw => w_witness2)
  k_fill
  refine DL.walkGS (l := PySem.Challenge.rw_saidahead_k81_forms_and_talks) (n := 63) (k := 12) (x := "script") (by decide +kernel) rfl (by decide) rfl ⟨rfl, by decide, by decide⟩ (fun w h Y => PySem.W.km_in_of Y) ?F
  case F =>
    intro w mg fa h Y KX G hmg own
    refine' DL.with_fun (x := "is_sign") (st := K81.top 14) KX G ?a_1 ?l_1 ?c_1 ?k_1 ?z_1
    (case a_1 => k_is); (case l_1 => k_is); (case c_1 => k_is); (case k_1 => k_is)
    intro F_is_sign
    refine' DL.with_fun (x := "is_text") (st := K81.top 15) KX G ?a_2 ?l_2 ?c_2 ?k_2 ?z_2
    (case a_2 => k_is); (case l_2 => k_is); (case c_2 => k_is); (case k_2 => k_is)
    intro F_is_text
    refine' DL.with_fun (x := "is_short") (st := K81.top 16) KX G ?a_3 ?l_3 ?c_3 ?k_3 ?z_3
    (case a_3 => k_is); (case l_3 => k_is); (case c_3 => k_is); (case k_3 => k_is)
    intro F_is_short
    refine' DL.with_fun (x := "is_role") (st := K81.top 17) KX G ?a_4 ?l_4 ?c_4 ?k_4 ?z_4
    (case a_4 => k_is); (case l_4 => k_is); (case c_4 => k_is); (case k_4 => k_is)
    intro F_is_role
    refine' DL.with_fun (x := "is_escape") (st := K81.top 18) KX G ?a_5 ?l_5 ?c_5 ?k_5 ?z_5
    (case a_5 => k_is); (case l_5 => k_is); (case c_5 => k_is); (case k_5 => k_is)
    intro F_is_escape
    refine' DL.with_fun (x := "is_form") (st := K81.top 19) KX G ?a_6 ?l_6 ?c_6 ?k_6 ?z_6
    (case a_6 => k_is); (case l_6 => k_is); (case c_6 => k_is); (case k_6 => k_is)
    intro F_is_form
    refine' DL.with_fun (x := "check_form") (st := K81.top 20) KX G ?a_7 ?l_7 ?c_7 ?k_7 ?z_7
    (case a_7 => k_is); (case l_7 => k_is); (case c_7 => k_is); (case k_7 => k_is)
    intro F_check_form
    refine' DL.with_fun (x := "check_text") (st := K81.top 21) KX G ?a_8 ?l_8 ?c_8 ?k_8 ?z_8
    (case a_8 => k_is); (case l_8 => k_is); (case c_8 => k_is); (case k_8 => k_is)
    intro F_check_text
    refine' DL.with_fun (x := "role_of") (st := K81.top 22) KX G ?a_9 ?l_9 ?c_9 ?k_9 ?z_9
    (case a_9 => k_is); (case l_9 => k_is); (case c_9 => k_is); (case k_9 => k_is)
    intro F_role_of
    refine' DL.with_fun (x := "is_message") (st := K81.top 23) KX G ?a_10 ?l_10 ?c_10 ?k_10 ?z_10
    (case a_10 => k_is); (case l_10 => k_is); (case c_10 => k_is); (case k_10 => k_is)
    intro F_is_message
    refine' DL.with_fun (x := "fits_talk") (st := K81.top 24) KX G ?a_11 ?l_11 ?c_11 ?k_11 ?z_11
    (case a_11 => k_is); (case l_11 => k_is); (case c_11 => k_is); (case k_11 => k_is)
    intro F_fits_talk
    refine' DL.with_fun (x := "is_talk") (st := K81.top 25) KX G ?a_12 ?l_12 ?c_12 ?k_12 ?z_12
    (case a_12 => k_is); (case l_12 => k_is); (case c_12 => k_is); (case k_12 => k_is)
    intro F_is_talk
    refine' DL.with_fun (x := "check_talk") (st := K81.top 26) KX G ?a_13 ?l_13 ?c_13 ?k_13 ?z_13
    (case a_13 => k_is); (case l_13 => k_is); (case c_13 => k_is); (case k_13 => k_is)
    intro F_check_talk
    refine' DL.with_fun (x := "escape_of") (st := K81.top 27) KX G ?a_14 ?l_14 ?c_14 ?k_14 ?z_14
    (case a_14 => k_is); (case l_14 => k_is); (case c_14 => k_is); (case k_14 => k_is)
    intro F_escape_of
    refine' DL.with_fun (x := "led_out") (st := K81.top 28) KX G ?a_15 ?l_15 ?c_15 ?k_15 ?z_15
    (case a_15 => k_is); (case l_15 => k_is); (case c_15 => k_is); (case k_15 => k_is)
    intro F_led_out
    refine' DL.with_fun (x := "escaped") (st := K81.top 29) KX G ?a_16 ?l_16 ?c_16 ?k_16 ?z_16
    (case a_16 => k_is); (case l_16 => k_is); (case c_16 => k_is); (case k_16 => k_is)
    intro F_escaped
    refine' DL.with_fun (x := "writing") (st := K81.top 30) KX G ?a_17 ?l_17 ?c_17 ?k_17 ?z_17
    (case a_17 => k_is); (case l_17 => k_is); (case c_17 => k_is); (case k_17 => k_is)
    intro F_writing
    refine' DL.with_fun (x := "written_talk") (st := K81.top 31) KX G ?a_18 ?l_18 ?c_18 ?k_18 ?z_18
    (case a_18 => k_is); (case l_18 => k_is); (case c_18 => k_is); (case k_18 => k_is)
    intro F_written_talk
    refine' DL.with_fun (x := "_law_hash") (st := K81.top 38) KX G ?a_19 ?l_19 ?c_19 ?k_19 ?z_19
    (case a_19 => k_is); (case l_19 => k_is); (case c_19 => k_is); (case k_19 => k_is)
    intro F__law_hash
    refine' DL.with_fun (x := "_law_random") (st := K81.top 33) KX G ?a_20 ?l_20 ?c_20 ?k_20 ?z_20
    (case a_20 => k_is); (case l_20 => k_is); (case c_20 => k_is); (case k_20 => k_is)
    intro F__law_random
    refine' DL.with_fun (x := "_law_cell") (st := K81.top 39) KX G ?a_21 ?l_21 ?c_21 ?k_21 ?z_21
    (case a_21 => k_is); (case l_21 => k_is); (case c_21 => k_is); (case k_21 => k_is)
    intro F__law_cell
    refine' DL.with_fun (x := "_law_generator") (st := K81.top 34) KX G ?a_22 ?l_22 ?c_22 ?k_22 ?z_22
    (case a_22 => k_is); (case l_22 => k_is); (case c_22 => k_is); (case k_22 => k_is)
    intro F__law_generator
    refine' DL.with_fun (x := "_law_pick") (st := K81.top 35) KX G ?a_23 ?l_23 ?c_23 ?k_23 ?z_23
    (case a_23 => k_is); (case l_23 => k_is); (case c_23 => k_is); (case k_23 => k_is)
    intro F__law_pick
    refine' DL.with_fun (x := "_law_drawn_order") (st := K81.top 36) KX G ?a_24 ?l_24 ?c_24 ?k_24 ?z_24
    (case a_24 => k_is); (case l_24 => k_is); (case c_24 => k_is); (case k_24 => k_is)
    intro F__law_drawn_order
    refine' DL.with_fun (x := "_law_text") (st := K81.top 41) KX G ?a_25 ?l_25 ?c_25 ?k_25 ?z_25
    (case a_25 => k_is); (case l_25 => k_is); (case c_25 => k_is); (case k_25 => k_is)
    intro F__law_text
    refine' DL.with_fun (x := "_law_name") (st := K81.top 42) KX G ?a_26 ?l_26 ?c_26 ?k_26 ?z_26
    (case a_26 => k_is); (case l_26 => k_is); (case c_26 => k_is); (case k_26 => k_is)
    intro F__law_name
    refine' DL.with_fun (x := "_law_of_escape") (st := K81.top 44) KX G ?a_27 ?l_27 ?c_27 ?k_27 ?z_27
    (case a_27 => k_is); (case l_27 => k_is); (case c_27 => k_is); (case k_27 => k_is)
    intro F__law_of_escape
    refine' DL.with_fun (x := "_law_written") (st := K81.top 45) KX G ?a_28 ?l_28 ?c_28 ?k_28 ?z_28
    (case a_28 => k_is); (case l_28 => k_is); (case c_28 => k_is); (case k_28 => k_is)
    intro F__law_written
    refine' DL.with_fun (x := "_law_talk") (st := K81.top 46) KX G ?a_29 ?l_29 ?c_29 ?k_29 ?z_29
    (case a_29 => k_is); (case l_29 => k_is); (case c_29 => k_is); (case k_29 => k_is)
    intro F__law_talk
    refine' DL.with_fun (x := "_law_form") (st := K81.top 43) KX G ?a_30 ?l_30 ?c_30 ?k_30 ?z_30
    (case a_30 => k_is); (case l_30 => k_is); (case c_30 => k_is); (case k_30 => k_is)
    intro F__law_form
    refine' DL.with_fun (x := "_law_is_text") (st := K81.top 48) KX G ?a_31 ?l_31 ?c_31 ?k_31 ?z_31
    (case a_31 => k_is); (case l_31 => k_is); (case c_31 => k_is); (case k_31 => k_is)
    intro F__law_is_text
    refine' DL.with_fun (x := "_law_is_form") (st := K81.top 49) KX G ?a_32 ?l_32 ?c_32 ?k_32 ?z_32
    (case a_32 => k_is); (case l_32 => k_is); (case c_32 => k_is); (case k_32 => k_is)
    intro F__law_is_form
    refine' DL.with_fun (x := "_law_is_talk") (st := K81.top 50) KX G ?a_33 ?l_33 ?c_33 ?k_33 ?z_33
    (case a_33 => k_is); (case l_33 => k_is); (case c_33 => k_is); (case k_33 => k_is)
    intro F__law_is_talk
    refine' DL.with_fun (x := "_law_bent_talks") (st := K81.top 53) KX G ?a_34 ?l_34 ?c_34 ?k_34 ?z_34
    (case a_34 => k_is); (case l_34 => k_is); (case c_34 => k_is); (case k_34 => k_is)
    intro F__law_bent_talks
    refine' DL.with_fun (x := "_law_bent_part") (st := K81.top 51) KX G ?a_35 ?l_35 ?c_35 ?k_35 ?z_35
    (case a_35 => k_is); (case l_35 => k_is); (case c_35 => k_is); (case k_35 => k_is)
    intro F__law_bent_part
    refine' DL.with_fun (x := "_law_bent_forms") (st := K81.top 52) KX G ?a_36 ?l_36 ?c_36 ?k_36 ?z_36
    (case a_36 => k_is); (case l_36 => k_is); (case c_36 => k_is); (case k_36 => k_is)
    intro F__law_bent_forms
    refine' DL.with_fun (x := "_law_error") (st := K81.top 37) KX G ?a_37 ?l_37 ?c_37 ?k_37 ?z_37
    (case a_37 => k_is); (case l_37 => k_is); (case c_37 => k_is); (case k_37 => k_is)
    intro F__law_error
    refine' DL.with_fun (x := "_law_kinds") (st := K81.top 47) KX G ?a_38 ?l_38 ?c_38 ?k_38 ?z_38
    (case a_38 => k_is); (case l_38 => k_is); (case c_38 => k_is); (case k_38 => k_is)
    intro F__law_kinds
    refine' DL.with_fun (x := "_law_refused") (st := K81.top 40) KX G ?a_39 ?l_39 ?c_39 ?k_39 ?z_39
    (case a_39 => k_is); (case l_39 => k_is); (case c_39 => k_is); (case k_39 => k_is)
    intro F__law_refused
    refine' DL.with_funC (x := "_law_right") (st := K81.top 54) KX G ?a_40 ?l_40 ?c_40 ?k_40 ?lc_40 ?e1_40 ?hd_40 ?hT_40 ?nT_40 ?z_40
    (case a_40 => k_is); (case l_40 => k_is); (case c_40 => k_is); (case k_40 => k_is); (case lc_40 => k_is); (case e1_40 => rfl); (case hd_40 => kernel_rfl); (case hT_40 => exact PySem.W.km_tabs_of Y _ (by simp)); (case nT_40 => first | rfl | decide +kernel)
    intro F__law_right CH hT nT
    refine' DL.with_fun (x := "law") (st := K81.top 55) KX G ?a_41 ?l_41 ?c_41 ?k_41 ?z_41
    (case a_41 => k_is); (case l_41 => k_is); (case c_41 => k_is); (case k_41 => k_is)
    intro F_law
    refine' DL.with_err (x := "InvalidForm") (P := K81.PR) KX G ?aC_42 ?xC_42 ?bmo_42 ?sa_42 ?exC_42 ?tyC_42 ?kC_42 ?ga_42 ?gg_42 ?noV_42 ?iC_42 ?tI_42 ?hdC_42 ?sv_42 ?own_42 ?al_42 ?noAny_42 ?noS_42 ?topS_42 ?l1_42 ?l2_42 ?l3_42 ?l4_42 ?l5_42 ?l6_42 ?l7_42 ?l8_42 ?z_42
    (case aC_42 => k_is)
    (case xC_42 => k_is)
    (case bmo_42 => rfl)
    (case sa_42 => k_is)
    (case exC_42 => k_is)
    (case tyC_42 => k_is)
    (case kC_42 => k_is)
    (case ga_42 => k_is)
    (case gg_42 => k_is)
    (case noV_42 => k_is)
    (case iC_42 => k_is)
    (case tI_42 => k_is)
    (case hdC_42 => k_is)
    (case sv_42 => k_is)
    (case own_42 => k_is)
    (case al_42 => kernel_rfl)
    (case noAny_42 => k_is)
    (case noS_42 => k_is)
    (case topS_42 => rfl)
    (case l1_42 => k_is)
    (case l2_42 => k_is)
    (case l3_42 => k_is)
    (case l4_42 => rfl)
    (case l5_42 => rfl)
    (case l6_42 => k_is)
    (case l7_42 => rfl)
    (case l8_42 => k_is)
    intro R_InvalidForm X_InvalidForm g_InvalidForm
    refine' DL.with_err (x := "InvalidTalk") (P := K81.PR) KX G ?aC_43 ?xC_43 ?bmo_43 ?sa_43 ?exC_43 ?tyC_43 ?kC_43 ?ga_43 ?gg_43 ?noV_43 ?iC_43 ?tI_43 ?hdC_43 ?sv_43 ?own_43 ?al_43 ?noAny_43 ?noS_43 ?topS_43 ?l1_43 ?l2_43 ?l3_43 ?l4_43 ?l5_43 ?l6_43 ?l7_43 ?l8_43 ?z_43
    (case aC_43 => k_is)
    (case xC_43 => k_is)
    (case bmo_43 => rfl)
    (case sa_43 => k_is)
    (case exC_43 => k_is)
    (case tyC_43 => k_is)
    (case kC_43 => k_is)
    (case ga_43 => k_is)
    (case gg_43 => k_is)
    (case noV_43 => k_is)
    (case iC_43 => k_is)
    (case tI_43 => k_is)
    (case hdC_43 => k_is)
    (case sv_43 => k_is)
    (case own_43 => k_is)
    (case al_43 => kernel_rfl)
    (case noAny_43 => k_is)
    (case noS_43 => k_is)
    (case topS_43 => rfl)
    (case l1_43 => k_is)
    (case l2_43 => k_is)
    (case l3_43 => k_is)
    (case l4_43 => rfl)
    (case l5_43 => rfl)
    (case l6_43 => k_is)
    (case l7_43 => rfl)
    (case l8_43 => k_is)
    intro R_InvalidTalk X_InvalidTalk g_InvalidTalk
    refine' DL.with_err (x := "InvalidText") (P := K81.PR) KX G ?aC_44 ?xC_44 ?bmo_44 ?sa_44 ?exC_44 ?tyC_44 ?kC_44 ?ga_44 ?gg_44 ?noV_44 ?iC_44 ?tI_44 ?hdC_44 ?sv_44 ?own_44 ?al_44 ?noAny_44 ?noS_44 ?topS_44 ?l1_44 ?l2_44 ?l3_44 ?l4_44 ?l5_44 ?l6_44 ?l7_44 ?l8_44 ?z_44
    (case aC_44 => k_is)
    (case xC_44 => k_is)
    (case bmo_44 => rfl)
    (case sa_44 => k_is)
    (case exC_44 => k_is)
    (case tyC_44 => k_is)
    (case kC_44 => k_is)
    (case ga_44 => k_is)
    (case gg_44 => k_is)
    (case noV_44 => k_is)
    (case iC_44 => k_is)
    (case tI_44 => k_is)
    (case hdC_44 => k_is)
    (case sv_44 => k_is)
    (case own_44 => k_is)
    (case al_44 => kernel_rfl)
    (case noAny_44 => k_is)
    (case noS_44 => k_is)
    (case topS_44 => rfl)
    (case l1_44 => k_is)
    (case l2_44 => k_is)
    (case l3_44 => k_is)
    (case l4_44 => rfl)
    (case l5_44 => rfl)
    (case l6_44 => k_is)
    (case l7_44 => rfl)
    (case l8_44 => k_is)
    intro R_InvalidText X_InvalidText g_InvalidText
    refine' DL.with_ref (x := "SaidError") KX G ?a_45 ?z_45
    (case a_45 => k_is)
    intro g_SaidError
    refine' DL.with_ref (x := "InvalidBook") KX G ?a_46 ?z_46
    (case a_46 => k_is)
    intro g_InvalidBook
    refine' DL.with_ref (x := "InvalidList") KX G ?a_47 ?z_47
    (case a_47 => k_is)
    intro g_InvalidList
    refine' DL.with_ref (x := "InvalidNumber") KX G ?a_48 ?z_48
    (case a_48 => k_is)
    intro g_InvalidNumber
    refine' DL.with_ref (x := "InvalidPlace") KX G ?a_49 ?z_49
    (case a_49 => k_is)
    intro g_InvalidPlace
    refine' DL.with_ref (x := "InvalidRole") KX G ?a_50 ?z_50
    (case a_50 => k_is)
    intro g_InvalidRole
    refine' DL.with_ref (x := "SMALL") KX G ?a_51 ?z_51
    (case a_51 => k_is)
    intro g_SMALL
    refine' DL.with_ref (x := "MOST_ROLES") KX G ?a_52 ?z_52
    (case a_52 => k_is)
    intro g_MOST_ROLES
    refine' DL.with_ref (x := "MOST_ESCAPES") KX G ?a_53 ?z_53
    (case a_53 => k_is)
    intro g_MOST_ESCAPES
    have T : K81.Bl mg := ⟨DL.with_none KX G (by k_is), DL.with_none KX G (by k_is), DL.with_none KX G (by k_is), DL.with_none KX G (by k_is), DL.with_none KX G (by k_is), DL.with_none KX G (by k_is), DL.with_none KX G (by k_is), DL.with_none KX G (by k_is), DL.with_none KX G (by k_is), DL.with_none KX G (by k_is), DL.with_none KX G (by k_is), DL.with_none KX G (by k_is), DL.with_none KX G (by k_is), DL.with_none KX G (by k_is), DL.with_none KX G (by k_is), DL.with_none KX G (by k_is), DL.with_none KX G (by k_is), DL.with_none KX G (by k_is), DL.with_none KX G (by k_is)⟩
    have C : K81.Cs mg := ⟨⟨_, g_SMALL, ⟨_, rfl⟩⟩, ⟨_, g_MOST_ROLES, ⟨_, rfl⟩⟩, ⟨_, g_MOST_ESCAPES, ⟨_, rfl⟩⟩⟩
    refine' K81.lawG_all T C ⟨R_InvalidForm, R_InvalidText, R_InvalidTalk⟩ ⟨g_InvalidBook, g_InvalidForm, g_InvalidList, g_InvalidNumber, g_InvalidPlace, g_InvalidRole, g_InvalidTalk, g_InvalidText⟩ ?keF_54 ?keT_54 ?keX_54 g_SaidError hT nT CH F_is_sign F_is_text F_is_short F_is_role F_is_escape F_is_form F_check_form F_check_text F_role_of F_is_message F_fits_talk F_is_talk F_check_talk F_escape_of F_led_out F_escaped F_writing F_written_talk F__law_hash F__law_random F__law_cell F__law_generator F__law_pick F__law_drawn_order F__law_text F__law_name F__law_of_escape F__law_written F__law_talk F__law_form F__law_is_text F__law_is_form F__law_is_talk F__law_bent_talks F__law_bent_part F__law_bent_forms F__law_error F__law_kinds F__law_refused F__law_right F_law
    (case keF_54 => exact ⟨by decide, X_InvalidForm, ⟨by k_is, by k_is, by k_is, by k_is, by k_is, by k_is, by k_is, by k_is⟩, by k_is, by kernel_rfl, by kernel_rfl, by kernel_rfl, by kernel_rfl, by kernel_rfl, by kernel_rfl, by kernel_rfl, by kernel_rfl, by kernel_rfl⟩)
    (case keT_54 => exact ⟨by decide, X_InvalidTalk, ⟨by k_is, by k_is, by k_is, by k_is, by k_is, by k_is, by k_is, by k_is⟩, by k_is, by kernel_rfl, by kernel_rfl, by kernel_rfl, by kernel_rfl, by kernel_rfl, by kernel_rfl, by kernel_rfl, by kernel_rfl, by kernel_rfl⟩)
    (case keX_54 => exact ⟨by decide, X_InvalidText, ⟨by k_is, by k_is, by k_is, by k_is, by k_is, by k_is, by k_is, by k_is⟩, by k_is, by kernel_rfl, by kernel_rfl, by kernel_rfl, by kernel_rfl, by kernel_rfl, by kernel_rfl, by kernel_rfl, by kernel_rfl, by kernel_rfl⟩)

